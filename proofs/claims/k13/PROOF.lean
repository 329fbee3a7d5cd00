import PyProof.Rows.All
import Wide.All
import OpenK.AllK
import Wide.FinOn
import HandS.ForMost
import HandS.Wide
import KE.KOpsOwn
import HandS.IsInst
import HandS.Style
import HandS.Flow
import HandS.TupLe
import HandS.Evl
import PyProof.ReprRoads
import HandS.MakeKwOnly
import HandS.ClsMeth
import KE.KCallOwn
import PyProof.EqAt
import HandS.ExcInit
import HandS.ExcSuper
import KE.KExcSuper
import KE.KSuper
import HandS.ExcField
import HandS.ExcIs
import HandS.ExcOwn
import HandS.Lambda
import KE.KExcIs
import HandS.EndTab
import HandS.Walk
import HandS.WordsExc
import PySem.Challenge.RW_onelongturn_k13_trips_refused
set_option Elab.async false
set_option linter.all false
set_option maxRecDepth 100000
set_option maxHeartbeats 4000000
namespace Ol
open PySem PySem.W PySem.Calls PyProof.Rows L2
section
variable {prog : Program} {w : World} {M : Model} {A : Around} {E : Value → Shared → Prop} {s : Shared} {K : Frag} {x C L f : Addr} {ox : Obj} {od : Option Obj} {nm T : String}

/-- an int's own method lets an instance be -/
def Lets (id : String) : Prop := ∀ (prog : Program) (w : World) (A : Around) (E : Value → Shared → Prop) (s : Shared) (x C dx : Addr) (i : Int) (t : Tok) (Q : Value → Shared → Prop),
  s.heap.get? x = some (instObj C dx) → Q .notImplemented s → wpAny (model prog w) A (call (.builtin id) [.int i t, .ref x]) Q E s
theorem lets_mod : Lets "int.__mod__" := by
  intro prog w A E s x C dx i t Q hx h
  refine wpAny_call_entry F.slot_int_mod (typeIs_int s i t) F.entry_int_mod ?_ (F.args_int_mod_2 _ _)
  obtain ⟨hp, g, d, tk, os⟩ := s
  unfold Builtin.«int.__mod__»
  wp_walk
  exact ⟨_, rfl, h⟩
theorem lets_fdiv : Lets "int.__floordiv__" := by
  intro prog w A E s x C dx i t Q hx h
  refine wpAny_call_entry F.slot_int_floordiv (typeIs_int s i t) F.entry_int_floordiv ?_ (F.args_int_floordiv_2 _ _)
  obtain ⟨hp, g, d, tk, os⟩ := s
  unfold Builtin.«int.__floordiv__»
  wp_walk
  exact ⟨_, rfl, h⟩
theorem lets_mul : Lets "int.__mul__" := by
  intro prog w A E s x C dx i t Q hx h
  refine wpAny_call_entry F.slot_int_mul (typeIs_int s i t) F.entry_int_mul ?_ (F.args_int_mul_2 _ _)
  obtain ⟨hp, g, d, tk, os⟩ := s
  unfold Builtin.«int.__mul__»
  wp_walk
  exact ⟨_, rfl, h⟩
theorem lets_add : Lets "int.__add__" := by
  intro prog w A E s x C dx i t Q hx h
  refine wpAny_call_entry F.slot_int_add (typeIs_int s i t) F.entry_int_add ?_ (F.args_int_add_2 _ _)
  obtain ⟨hp, g, d, tk, os⟩ := s
  unfold Builtin.«int.__add__»
  wp_walk
  exact ⟨_, rfl, h⟩

theorem fills_R {h : Heap} {cd : ClassData} {rest : List Value} {fo : Option Value} (X : K.In h) (hc : clsIn K C = some cd) (hm : cd.mro = .ref C :: rest)
    (hs : findIn K (.ref C) (PySem.dunder nm) = some fo) (hp : fo = none ∨ ∃ g : Addr, fo = some (.ref g)) (hr : findIn K (.ref C) (dunderR nm) = some (some (.ref f))) : Looks M h (fillsNumberSlot (.ref C) nm) true := by
  rcases hp with rfl | ⟨g, rfl⟩
  · intro A Q E s k q
    unfold fillsNumberSlot
    refine wpAny_bind ((looks_clsIn X hc).andThen (f := fun cd => pure cd.mro) .now A _ E s k ?_)
    rw [hm, List.anyM_cons]
    refine wpAny_bind ?_
    show wpAny M A (List.anyM _ [PySem.dunder nm, dunderR nm]) _ _ _
    rw [List.anyM_cons]
    refine wpAny_bind (wpAny_bind (looks_findIn X hs A _ E s k ?_))
    dsimp only
    refine wpAny_pure ?_
    rw [if_neg (show ¬ (false = true) from Bool.false_ne_true), List.anyM_cons]
    refine wpAny_bind (wpAny_bind (looks_findIn X hr A _ E s k ?_))
    dsimp only
    rw [if_pos (show (!ownNameWrapper (.ref f) (PySem.dunderR nm)) = true from rfl)]
    refine wpAny_pure ?_
    rw [if_pos rfl]
    refine wpAny_pure ?_
    rw [if_pos rfl]
    exact wpAny_pure q
  · exact fills_K X hc hm hs

theorem refl_int {op : Operator} {i : Int} {t : Tok} {id : String} {dx : Addr} {fo : Option Value} {Q : Value → Shared → Prop} (X : K.In s.heap) (I : InstAt s.heap x ox C od) (hx : s.heap.get? x = some (instObj C dx)) (hc : selfFirst K C = true)
    (fl : fillsNumberSlot (.type "int") op.info.2 = pure true) (sl : Slot "int" (PySem.dunder op.info.2) id) (lt : Lets id)
    (hs : findIn K (.ref C) (PySem.dunder op.info.2) = some fo) (hp : fo = none ∨ ∃ g : Addr, fo = some (.ref g)) (hr : findIn K (.ref C) (dunderR op.info.2) = some (some (.ref f))) (hf : isFn K (.ref f) = true) (hsub : subIn K (.ref C) (.type "int") = some false)
    (h : wpAny (model prog w) A (call (.ref f) [.ref x, .int i t]) (W.CmpBack Q) E s) : wpAny (model prog w) A (binaryOp op (.int i t) (.ref x)) Q E s := by
  obtain ⟨cd, rest, hcd, hm⟩ := ksp_first hc
  rcases hi : op.info with ⟨sym, nm'⟩
  rw [hi] at hs hr fl sl
  dsimp only at hs hr fl sl
  have one := ksp_try X I hr hf h
  have two : ∀ Q' : Option Value → Shared → Prop, Q' none s → wpAny (model prog w) A (tryMethod (.int i t) (PySem.dunder nm') (.ref x)) Q' E s := fun Q' q =>
    wpAny_tryMethod_declines (typeIs_int s i t) sl (lt _ _ _ _ _ _ _ _ _ _ _ hx ⟨rfl, q⟩)
  obtain ⟨hh, g, d, tt, os⟩ := s
  have L1 : Looks (model prog w) hh (typeOf (.int i t)) (.type "int") := Looks.of_pure rfl
  have L2 : Looks (model prog w) hh (typeOf (.ref x)) (.ref C) := I.type
  have L3 : Looks (model prog w) hh (fillsNumberSlot (.type "int") nm') true := Looks.of_pure fl
  have L4 : Looks (model prog w) hh (fillsNumberSlot (.ref C) nm') true := fills_R X hcd hm hs hp hr
  have L5 : Looks (model prog w) hh (isSubtype (.ref C) (.type "int")) false := looks_subIn X hsub
  have L7 : Looks (model prog w) hh (numberSlotInPython (.type "int") nm') false := Looks.of_pure rfl
  have hne : (Value.type "int" == Value.ref C) = false := Bool.eq_false_iff.mpr fun q => by cases beq_iff_eq.mp q
  simp only [binaryOp, hi]
  refine wpAny_holding (wpAny_bind ?_)
  unfold binaryOp1
  refine wpAny_bind (L1.at (wpAny_bind (L2.at (wpAny_bind (L3.at ?_)))))
  simp only [hne, Bool.false_eq_true, if_false]
  ksp_lk
  refine two _ ?_
  ksp_lk
  refine wpAny_mono one (fun r s' hr' => ?_) fun _ _ e => e
  obtain ⟨v, rfl, hq⟩ := hr'
  ksp_lk
  exact hq
end
end Ol

namespace Ol
open PySem PySem.W PySem.Calls PyProof.Rows L2
section
variable {X : Cx} {CX : CXT} {k : Nat} {C f : Addr} {fd : FuncData} {ps : List Str} {sp : Sp} {E : XK} {pins : List (Addr × Obj)} {σ : L2.St} {H : Hp} {s : Shared}

/-- what the type of a value is looked up as -/
theorem looks_ty {x : V} {u t : Value} (I : Inv X pins σ H s) (rx : RelV x u) (ty : TyX X.K H x t) : Looks (model X.prog X.w) s.heap (typeOf u) t := by
  cases ty with
  | base b =>
    cases b with
    | non => cases (show u = Value.none from rx); exact Looks.of_pure rfl
    | bl y => cases (show u = Value.bool y from rx); exact Looks.of_pure rfl
    | int i => obtain ⟨t, q⟩ := (show ∃ t, u = Value.int i t from rx); cases q; exact Looks.of_pure rfl
    | str y => obtain ⟨t, q⟩ := (show ∃ t, u = Value.str y t from rx); cases q; exact Looks.of_pure rfl
    | flt y => obtain ⟨t, q⟩ := (show ∃ t, u = Value.float y t from rx); cases q; exact Looks.of_pure rfl
    | @lst a xs ea =>
      cases (show u = Value.ref a from rx)
      obtain ⟨_, _, n, _, h1⟩ := (show ObjOk X.prog X.w H s.heap a (.lst xs) from I.hok a _ ea)
      exact (Looks.ld h1).andThen .now
    | @frz a ob xs ea =>
      cases (show u = Value.ref a from rx)
      obtain ⟨_, _, _, n, _, h1⟩ := (show ObjOk X.prog X.w H s.heap a (.frz ob (.lst xs)) from I.hok a _ ea)
      exact (Looks.ld h1).andThen .now
    | @tup a xs ea =>
      cases (show u = Value.ref a from rx)
      obtain ⟨_, _, _, o, h1, h2, _⟩ := (show ObjOk X.prog X.w H s.heap a (.tup xs) from I.hok a _ ea)
      exact h2 ▸ (Looks.ld h1).andThen .now
    | @dK a kvs ea =>
      cases (show u = Value.ref a from rx)
      obtain ⟨_, _, vs, _, o, es, ep, h1, h2, _⟩ := (show ObjOk X.prog X.w H s.heap a (.dK kvs) from I.hok a _ ea)
      exact h2.1 ▸ (Looks.ld h1).andThen .now
    | @dT a kvs ea =>
      cases (show u = Value.ref a from rx)
      obtain ⟨_, _, xs, _, o, es, ep, h1, h2, _⟩ := (show ObjOk X.prog X.w H s.heap a (.dT kvs) from I.hok a _ ea)
      exact h2.1 ▸ (Looks.ld h1).andThen .now
    | @ins a C dx fs ea cl ha hn htk hm =>
      cases (show u = Value.ref a from rx)
      obtain ⟨mA, O, _⟩ := ins_get I.hok ea
      obtain ⟨od, J, _⟩ := O.look
      exact J.type
  | byt y => obtain ⟨t, q⟩ := (show ∃ t, u = Value.bytes y t from rx); cases q; exact Looks.of_pure rfl
  | @set a S n ea =>
    cases (show u = Value.ref a from rx)
    obtain ⟨o, _, _, _, e, ex, _⟩ := (show ObjOk X.prog X.w H s.heap a (.set S n) from I.hok a _ ea)
    exact ex.1 ▸ (Looks.ld e).andThen .now
  | @kList a o e c =>
    cases (show u = Value.ref a from rx)
    exact c ▸ (Looks.ld (I.kIn a o e)).andThen .now
  | @kTuple a o e c =>
    cases (show u = Value.ref a from rx)
    exact c ▸ (Looks.ld (I.kIn a o e)).andThen .now
  | @kDict a o e c =>
    cases (show u = Value.ref a from rx)
    exact c ▸ (Looks.ld (I.kIn a o e)).andThen .now
  | @fTuple a ob xs ea =>
    cases (show u = Value.ref a from rx)
    obtain ⟨_, _, _, _, o, h1, h2, _⟩ := (show ObjOk X.prog X.w H s.heap a (.frz ob (.tup xs)) from I.hok a _ ea)
    exact h2 ▸ (Looks.ld h1).andThen .now
  | @fDict a ob kvs ea =>
    cases (show u = Value.ref a from rx)
    obtain ⟨_, _, _, vs, _, o, es, ep, h1, h2, _⟩ := (show ObjOk X.prog X.w H s.heap a (.frz ob (.dK kvs)) from I.hok a _ ea)
    exact h2.1 ▸ (Looks.ld h1).andThen .now

theorem back_ep {Q : VK} {u : Value} {s' : Shared} (h : EP X pins σ Q u s') : W.CmpBack (EP X pins σ Q) u s' := by
  obtain ⟨v, H', I', r, q⟩ := id h
  cases v with
  | non => cases (show u = Value.none from r); exact h
  | bl b => cases (show u = Value.bool b from r); exact h
  | int i => obtain ⟨t, e⟩ := (show ∃ t, u = Value.int i t from r); cases e; exact h
  | str i => obtain ⟨t, e⟩ := (show ∃ t, u = Value.str i t from r); cases e; exact h
  | byt i => obtain ⟨t, e⟩ := (show ∃ t, u = Value.bytes i t from r); cases e; exact h
  | flt i => obtain ⟨t, e⟩ := (show ∃ t, u = Value.float i t from r); cases e; exact h
  | ref a => cases (show u = Value.ref a from r); exact h
  | ty n => cases (show u = Value.type n from r); exact h

/-! ### own operators -/
/-- a op b, a an int, b an instance with the reflected method f -/
def rRefl (C : Addr) (sp : Sp) (E : XK) : R2 := fun x y H Q => ∃ i a dx fs, x = .int i ∧ y = .ref a ∧ H a = some (.ins C dx fs) ∧ sp [.ref a, .int i] H Q E
structure ReflOf (K : Frag) (C : Addr) (op : Operator) (f : Addr) : Prop where
  first : selfFirst K C = true
  own : ∃ fo : Option Value, findIn K (.ref C) (PySem.dunder op.info.2) = some fo ∧ (fo = none ∨ ∃ g : Addr, fo = some (.ref g))
  at_ : findIn K (.ref C) (dunderR op.info.2) = some (some (.ref f))
  fn : isFn K (.ref f) = true
  sub : subIn K (.ref C) (.type "int") = some false
theorem op_refl {op : Operator} {id : String} (R : ReflOf X.K C op f) (fl : fillsNumberSlot (.type "int") op.info.2 = pure true) (sl : Slot "int" (PySem.dunder op.info.2) id) (lt : Lets id)
    (F : FnOk X.prog X.w X.K X.mg X.base CX k f fd ps sp) (hr : Room k X.A) (hb : Binds X.K fd ps []) (hx : Passes CX X E) : OpR X (binaryOp op) (rRefl C sp E) := by
  intro pins s σ H x y v u Q I rx ry h
  obtain ⟨i, a, dx, fs, rfl, rfl, ea, q⟩ := h
  obtain ⟨t, rfl⟩ := rx
  cases (show u = Value.ref a from ry)
  obtain ⟨mA, O, _⟩ := ins_get I.hok ea
  obtain ⟨od, J, _⟩ := O.look
  obtain ⟨fo, h1, h2⟩ := R.own
  refine refl_int I.kIn J O.obj R.first fl sl lt h1 h2 R.at_ R.fn R.sub ?_
  exact wpAny_mono (run_fn (us := [.ref a, .int i t]) (vs := [.ref a, .int i]) F hr hb .nil hx I (.cons rfl (.cons ⟨t, rfl⟩ .nil)) q) (fun _ _ z => back_ep z) fun _ _ z => z
/-- a op b, a an instance with the method f, b of a built-in type T -/
def rOwnL (K : Frag) (C : Addr) (T : String) (sp : Sp) (E : XK) : R2 := fun x y H Q => ∃ a dx fs, x = .ref a ∧ H a = some (.ins C dx fs) ∧ TyX K H y (.type T) ∧ sp [.ref a, y] H Q E
structure OwnOf (K : Frag) (C : Addr) (op : Operator) (T : String) (f : Addr) : Prop where
  first : selfFirst K C = true
  at_ : findIn K (.ref C) (PySem.dunder op.info.2) = some (some (.ref f))
  fn : isFn K (.ref f) = true
  refl : ∃ rc : Option Value, findIn K (.ref C) (dunderR op.info.2) = some rc ∧ (rc = none ∨ ∃ g : Addr, rc = some (.ref g))
  t1 : ∃ fo, findIn K (.type T) (PySem.dunder op.info.2) = some fo
  t2 : ∃ ro, findIn K (.type T) (dunderR op.info.2) = some ro
  sub : subIn K (.type T) (.ref C) = some false

theorem own_left {op : Operator} {b : Value} {T : String} {x : Addr} {ox : Obj} {od : Option Obj} {K : Frag} {prog : Program} {w : World} {A : Around} {Er : Value → Shared → Prop} {fo ro rc : Option Value} {Q : Value → Shared → Prop} (X : K.In s.heap) (I : InstAt s.heap x ox C od)
    (hb : Looks (model prog w) s.heap (typeOf b) (.type T)) (hc : selfFirst K C = true)
    (hs : findIn K (.ref C) (PySem.dunder op.info.2) = some (some (.ref f))) (hf : isFn K (.ref f) = true) (hr : findIn K (.ref C) (dunderR op.info.2) = some rc) (hp : rc = none ∨ ∃ g : Addr, rc = some (.ref g))
    (h1 : findIn K (.type T) (PySem.dunder op.info.2) = some fo) (h2 : findIn K (.type T) (dunderR op.info.2) = some ro) (hsub : subIn K (.type T) (.ref C) = some false)
    (h : wpAny (model prog w) A (call (.ref f) [.ref x, b]) (W.CmpBack Q) Er s) : wpAny (model prog w) A (binaryOp op (.ref x) b) Q Er s := by
  obtain ⟨cd, rest, hcd, hm⟩ := ksp_first hc
  rcases hi : op.info with ⟨sym, nm'⟩
  rw [hi] at hs hr h1 h2
  dsimp only at hs hr h1 h2
  have one := ksp_try X I hs hf h
  obtain ⟨hh, g, d, tt, os⟩ := s
  have L1 : Looks (model prog w) hh (typeOf (.ref x)) (.ref C) := I.type
  have L2 : Looks (model prog w) hh (typeOf b) (.type T) := hb
  have L3 : Looks (model prog w) hh (fillsNumberSlot (.ref C) nm') true := fills_K X hcd hm hs
  have L4 : Looks (model prog w) hh (fillsNumberSlot (.type T) nm') ((fo.isSome && !isSeqSlot fo) || (ro.isSome && !isSeqSlot ro)) := ksp_fillsT X h1 h2
  have L5 : Looks (model prog w) hh (isSubtype (.type T) (.ref C)) false := looks_subIn X hsub
  have L6 : Looks (model prog w) hh (numberSlotInPython (.ref C) nm') true := ksp_inPy X hs hr hp
  have L7 : Looks (model prog w) hh (numberSlotInPython (.type T) nm') false := Looks.of_pure rfl
  have L8 : Looks (model prog w) hh (typeLookup (.type T) (dunderR nm')) ro := looks_findIn X h2
  generalize ((fo.isSome && !isSeqSlot fo) || (ro.isSome && !isSeqSlot ro)) = right at L4
  have hne : (Value.ref C == Value.type T) = false := Bool.eq_false_iff.mpr fun q => by cases beq_iff_eq.mp q
  simp only [binaryOp, hi]
  refine wpAny_holding (wpAny_bind ?_)
  unfold binaryOp1
  refine wpAny_bind (L1.at (wpAny_bind (L2.at (wpAny_bind (L3.at ?_)))))
  simp only [hne, Bool.false_eq_true, if_false]
  cases right with
  | false =>
    ksp_lk
    refine wpAny_mono one (fun r s' hr' => ?_) fun _ _ e => e
    obtain ⟨v, rfl, hq⟩ := hr'
    ksp_lk
    exact hq
  | true =>
    ksp_lk
    refine wpAny_mono one (fun r s' hr' => ?_) fun _ _ e => e
    obtain ⟨v, rfl, hq⟩ := hr'
    ksp_lk
    exact hq
theorem op_ownL {op : Operator} {T : String} (R : OwnOf X.K C op T f) (F : FnOk X.prog X.w X.K X.mg X.base CX k f fd ps sp) (hr : Room k X.A) (hb : Binds X.K fd ps []) (hx : Passes CX X E) : OpR X (binaryOp op) (rOwnL X.K C T sp E) := by
  intro pins s σ H x y v u Q I rx ry h
  obtain ⟨a, dx, fs, rfl, ea, ty, q⟩ := h
  cases (show v = Value.ref a from rx)
  obtain ⟨mA, O, _⟩ := ins_get I.hok ea
  obtain ⟨od, J, _⟩ := O.look
  obtain ⟨rc, h1, h2⟩ := R.refl
  obtain ⟨fo, h3⟩ := R.t1
  obtain ⟨ro, h4⟩ := R.t2
  refine own_left I.kIn J (looks_ty I ry ty) R.first R.at_ R.fn h1 h2 h3 h4 R.sub ?_
  exact wpAny_mono (run_fn (us := [.ref a, u]) (vs := [.ref a, y]) F hr hb .nil hx I (.cons rfl (.cons ry .nil)) q) (fun _ _ z => back_ep z) fun _ _ z => z

/-- a == b and its like, a an instance with the method f -/
def rCmpO (K : Frag) (C : Addr) (sp : Sp) (E : XK) : R2 := fun x y H Q => ∃ a dx fs t, x = .ref a ∧ H a = some (.ins C dx fs) ∧ TyX K H y t ∧ notFirst K C t = true ∧ sp [.ref a, y] H Q E
structure CmpOf (K : Frag) (C : Addr) (op : CmpOp) (f : Addr) : Prop where
  at_ : findIn K (.ref C) (cmpInfo op).2.1 = some (some (.ref f))
  fn : isFn K (.ref f) = true
theorem op_cmpO {op : CmpOp} (hop : ∀ a b, compareOp op a b = richCompare op a b) (R : CmpOf X.K C op f) (F : FnOk X.prog X.w X.K X.mg X.base CX k f fd ps sp) (hr : Room k X.A) (hb : Binds X.K fd ps []) (hx : Passes CX X E) : OpR X (compareOp op) (rCmpO X.K C sp E) := by
  intro pins s σ H x y v u Q I rx ry h
  obtain ⟨a, dx, fs, t, rfl, ea, ty, nf, q⟩ := h
  cases (show v = Value.ref a from rx)
  obtain ⟨mA, O, _⟩ := ins_get I.hok ea
  obtain ⟨od, J, _⟩ := O.look
  obtain ⟨m, Fm⟩ := I.fr
  rw [hop]
  refine cmp_K hr.units0 Fm I.mod.kin J (looks_ty I ry ty) nf R.at_ R.fn ?_
  exact wpAny_mono (run_fn (us := [.ref a, u]) (vs := [.ref a, y]) F hr hb .nil hx I (.cons rfl (.cons ry .nil)) q) (fun _ _ z => back_ep z) fun _ _ z => z

/-- b in a, a an instance with the method f -/
def rInO (C : Addr) (sp : Sp) (E : XK) (g : Bool → Bool) : R2 := fun x y H Q => ∃ a dx fs, y = .ref a ∧ H a = some (.ins C dx fs) ∧ sp [.ref a, x] H (fun v H' => ∃ b, v = .bl b ∧ Q (.bl (g b)) H') E
theorem op_inO (R : Meth X.K C "__contains__" f) (F : FnOk X.prog X.w X.K X.mg X.base CX k f fd ps sp) (hr : Room k X.A) (hb : Binds X.K fd ps []) (hx : Passes CX X E) : OpR X (compareOp .In) (rInO C sp E id) := by
  intro pins s σ H x y v u Q I rx ry h
  obtain ⟨a, dx, fs, rfl, ea, q⟩ := h
  cases (show u = Value.ref a from ry)
  obtain ⟨mA, O, _⟩ := ins_get I.hok ea
  obtain ⟨od, J, _⟩ := O.look
  obtain ⟨m, Fm⟩ := I.fr
  refine in_K Fm I.mod.kin J R.at_ R.fn ?_
  refine wpAny_mono (run_fn (us := [.ref a, v]) (vs := [.ref a, x]) F hr hb .nil hx I (.cons rfl (.cons rx .nil)) q) (fun z s' hz => ?_) fun _ _ z => z
  obtain ⟨v', H', I', r', b, rfl, q'⟩ := hz
  cases (show z = Value.bool b from r')
  exact wpAny_truthy_bool ⟨.bl b, H', I', rfl, q'⟩
theorem op_notInO (R : Meth X.K C "__contains__" f) (F : FnOk X.prog X.w X.K X.mg X.base CX k f fd ps sp) (hr : Room k X.A) (hb : Binds X.K fd ps []) (hx : Passes CX X E) : OpR X (compareOp .NotIn) (rInO C sp E not) := by
  intro pins s σ H x y v u Q I rx ry h
  obtain ⟨a, dx, fs, rfl, ea, q⟩ := h
  cases (show u = Value.ref a from ry)
  obtain ⟨mA, O, _⟩ := ins_get I.hok ea
  obtain ⟨od, J, _⟩ := O.look
  obtain ⟨m, Fm⟩ := I.fr
  refine notIn_K Fm I.mod.kin J R.at_ R.fn ?_
  refine wpAny_mono (run_fn (us := [.ref a, v]) (vs := [.ref a, x]) F hr hb .nil hx I (.cons rfl (.cons rx .nil)) q) (fun z s' hz => ?_) fun _ _ z => z
  obtain ⟨v', H', I', r', b, rfl, q'⟩ := hz
  cases (show z = Value.bool b from r')
  exact wpAny_truthy_bool ⟨.bl (!b), H', I', rfl, q'⟩

/-- a != b by the __eq__ of the class of a and object's __ne__ -/
structure NeOf (K : Frag) (C : Addr) (f : Addr) : Prop where
  eq : findIn K (.ref C) "__eq__" = some (some (.ref f))
  fn : isFn K (.ref f) = true
  ne : findIn K (.ref C) "__ne__" = some (some (.builtin "object.__ne__"))
  obj : mroIn K C (.type "object") = some true
theorem ne_obj {b tb : Value} {x : Addr} {ox : Obj} {od : Option Obj} {K : Frag} {prog : Program} {w : World} {A : Around} {Er : Value → Shared → Prop} {Q : Value → Shared → Prop} (hu : A.units + 1 < cLine) (X : K.In s.heap) (I : InstAt s.heap x ox C od)
    (hb : Looks (model prog w) s.heap (typeOf b) tb) (hn : notFirst K C tb = true) (R : NeOf K C f)
    (h : wpAny (model prog w) A.in1 (call (.ref f) [.ref x, b]) (fun v s' => ∃ k, v = .bool k ∧ Q (.bool (!k)) s') Er s) : wpAny (model prog w) A (compareOp .NotEq (.ref x) b) Q Er s := by
  have sub : Looks (model prog w) s.heap (isInstance (.ref x) (.type "object")) true := I.type.andThen (looks_mroIn X R.obj)
  have one : wpAny (model prog w) A (tryCompare (.ref x) "__ne__" b) (fun r s' => ∃ v, r = some v ∧ Q v s') Er s := by
    unfold tryCompare
    refine wpAny_bind ?_
    simp only [callSpecialIfBound?, bindSpecialIfBound?]
    refine wpAny_holding (wpAny_bind (wpAny_bind (wpAny_bind (I.type.here ((looks_findIn X R.ne).here ?_)))))
    have S := F.cmp_object.ne
    simp only [S.bind]
    refine wpAny_bind (wpAny_askSetting (wpAny_ite ?_))
    have fin : wpAny (model prog w) A (call (.builtin "object.__ne__") ([.ref x] ++ [b]) >>= fun v => pure (some v)) (fun a s' => wpAny (model prog w) A (match a with | some .notImplemented | none => pure none | some v => pure (some v)) (fun r s' => ∃ v, r = some v ∧ Q v s') Er s') Er s := by
      refine wpAny_bind (wpAny_call (codeAny_call_builtin S.plain F.cmpEntry_ne (check_slot F.cmpKind_ne F.cmpSplit_ne sub (F.cmpArgs_ne _ _) ?_)))
      unfold Builtin.«object.__ne__»
      obtain ⟨hp, g, d, t, os⟩ := s
      repeat (first
        | with_reducible refine wpAny_cRoomFor hu ?_
        | (refine wpAny_bind (m := callSpecialIfBound? (.ref x) (Str.ofString "__eq__") [b])
            (ifBound_K X I R.eq R.fn (wpAny_mono h (fun r s' hr => by
              obtain ⟨k, rfl, hq⟩ := hr
              repeat (first | exact ⟨_, rfl, hq⟩ | exact wpAny_pure (wpAny_pure ⟨_, rfl, hq⟩) | exact wpAny_pure ⟨_, rfl, hq⟩ | exact wpAny_truthy_bool hq | (refine wpAny_bind (m := truthy (.bool _)) (wpAny_truthy_bool ?_)) | wp_step)) fun _ _ e => e)))
        | wp_step)
    split
    · exact wpAny_bind (wpAny_pure (wpAny_pure (by exact fin)))
    · exact wpAny_tryCatch (wpAny_bind (wpAny_pure (wpAny_pure (by exact fin))))
  show wpAny _ _ (richCompare .NotEq (.ref x) b) _ _ _
  unfold richCompare
  simp only [oneThing_ref]
  refine wpAny_holding (wpAny_bind (wpAny_cRoomFor (Nat.lt_of_succ_lt hu) ?_))
  rw [show cmpInfo .NotEq = (("!=", "__ne__", "__ne__") : String × Str × Str) from rfl]
  dsimp only
  refine wpAny_bind (I.type.here (wpAny_bind (hb.here ?_)))
  split
  · rename_i q
    have e : subIn K tb (.ref C) = some false := by
      rcases Bool.or_eq_true_iff.mp hn with e | e
      · rw [beq_iff_eq.mp e] at q; simp at q
      · exact beq_iff_eq.mp e
    refine wpAny_bind ((looks_subIn X e).here ?_)
    simp only [Bool.false_eq_true, if_false]
    refine wpAny_bind (wpAny_mono one (fun r s' z => ?_) fun _ _ e => e)
    obtain ⟨v, rfl, hq⟩ := z
    exact wpAny_pure hq
  · refine wpAny_bind (wpAny_pure ?_)
    simp only [Bool.false_eq_true, if_false]
    refine wpAny_bind (wpAny_mono one (fun r s' z => ?_) fun _ _ e => e)
    obtain ⟨v, rfl, hq⟩ := z
    exact wpAny_pure hq

def rNeO (K : Frag) (C : Addr) (sp : Sp) (E : XK) : R2 := fun x y H Q => ∃ a dx fs t, x = .ref a ∧ H a = some (.ins C dx fs) ∧ TyX K H y t ∧ notFirst K C t = true ∧ sp [.ref a, y] H (fun v H' => ∃ b, v = .bl b ∧ Q (.bl (!b)) H') E
theorem run_in1 {Q : VK} {us : List Value} {vs : List V} (F : FnOk X.prog X.w X.K X.mg X.base CX k f fd ps sp) (hr : Room (k + 1) X.A) (hb : Binds X.K fd ps []) (hx : Passes CX X E)
    (I : Inv X pins σ H s) (r : Vals vs us) (h : sp vs H Q E) : wpAny (model X.prog X.w) X.A.in1 (call (.ref f) us) (EP X pins σ Q) X.xe s := by
  have hl : us.length = ps.length := by rw [← r.length]; exact F.len _ _ _ _ h
  have hb' := hb s us I.kIn (by rw [List.append_nil]; exact hl)
  rw [List.append_nil] at hb'
  refine wpAny_call (codeAny_mono (F.run X.A.in1 X.stack s H ⟨us, []⟩ us vs Q E hr.in1 I.env0.in1 hb' r h) fun r s' hq => ?_)
  cases r with
  | error e => exact hx pins σ H s e s' I hq
  | ok fl =>
    cases fl with
    | ret u => exact I.after hq
    | next => exact False.elim hq
    | brk => exact False.elim hq
    | cont => exact False.elim hq
theorem op_neO (R : NeOf X.K C f) (F : FnOk X.prog X.w X.K X.mg X.base CX k f fd ps sp) (hr : Room (k + 1) X.A) (hb : Binds X.K fd ps []) (hx : Passes CX X E) : OpR X (compareOp .NotEq) (rNeO X.K C sp E) := by
  intro pins s σ H x y v u Q I rx ry h
  obtain ⟨a, dx, fs, t, rfl, ea, ty, nf, q⟩ := h
  cases (show v = Value.ref a from rx)
  obtain ⟨mA, O, _⟩ := ins_get I.hok ea
  obtain ⟨od, J, _⟩ := O.look
  refine ne_obj (hu_of hr) I.kIn J (looks_ty I ry ty) nf R ?_
  refine wpAny_mono (run_in1 (us := [.ref a, u]) (vs := [.ref a, y]) F hr hb hx I (.cons rfl (.cons ry .nil)) q) (fun z s' hz => ?_) fun _ _ z => z
  obtain ⟨v', H', I', r', b, rfl, q'⟩ := hz
  cases (show z = Value.bool b from r')
  exact ⟨b, rfl, .bl (!b), H', I', rfl, q'⟩
theorem rich_eq (a b : Value) : compareOp .Eq a b = richCompare .Eq a b := rfl
theorem rich_lt (a b : Value) : compareOp .Lt a b = richCompare .Lt a b := rfl
theorem rich_le (a b : Value) : compareOp .LtE a b = richCompare .LtE a b := rfl
theorem rich_gt (a b : Value) : compareOp .Gt a b = richCompare .Gt a b := rfl
theorem rich_ge (a b : Value) : compareOp .GtE a b = richCompare .GtE a b := rfl
end
end Ol

namespace Ol
open PySem L2
theorem pe_gi {X : Cx} {x : Str} {i : Int} {pos : Pos} (hg : Gl X x) (h : ∃ t, X.mg x = some (Value.int i t)) (hd : (x == ("__debug__" : Str)) = false := by decide) : PE X (.Name x pos) (tC (.int i)) := by
  obtain ⟨t, h⟩ := h
  exact pe_glob hg h ⟨t, rfl⟩ hd
/-! ### heaps that a pen is drawn from -/
/-- all that stands beside p stays -/
def Go (p : Addr) (H H' : Hp) : Prop := ∀ b o, b ≠ p → H b = some o → H' b = some o
theorem Go.refl (p : Addr) (H : Hp) : Go p H H := fun _ _ _ h => h
theorem Go.trans {p : Addr} {H H1 H2 : Hp} (a : Go p H H1) (b : Go p H1 H2) : Go p H H2 := fun c o n h => b c o n (a c o n h)
theorem Same.go {p : Addr} {H H' : Hp} (s : Same H H') : Go p H H' := fun b o _ h => s b o h
theorem Same.new {H : Hp} {q : Addr} {o : HO} (h : H q = none) : Same H (upd H q o) := fun b u e => by rw [upd_ne (ne_of_none e h)]; exact e
theorem Go.new {p : Addr} {H : Hp} {q : Addr} {o : HO} (h : H q = none) : Go p H (upd H q o) := Same.go (Same.new h)
/-- an object beside p -/
structure At (p : Addr) (H : Hp) (b : Addr) (o : HO) : Prop where
  ne : b ≠ p
  at_ : H b = some o
theorem At.go {p b : Addr} {H H' : Hp} {o : HO} (a : At p H b o) (g : Go p H H') : At p H' b o := ⟨a.ne, g _ _ a.ne a.at_⟩
/-- the pen: its cells, how many are used, what is left of a great one; n more draws are let -/
def Pen (p : Addr) (H : Hp) (n : Nat) : Prop := ∃ (l : Addr) (cells : List Int) (spot great : Int), H p = some (.lst [.ref l, .int spot, .int great]) ∧ l ≠ p ∧ H l = some (.lst (cells.map V.int)) ∧ 0 ≤ spot ∧ spot + n ≤ 4000000 ∧ 0 ≤ great ∧ cells.length ≤ 63
theorem Pen.le {p : Addr} {H : Hp} {m n : Nat} (h : Pen p H n) (le : m ≤ n) : Pen p H m := by
  obtain ⟨l, c, s, g, h1, h2, h3, h4, h5, h6, h7⟩ := h
  exact ⟨l, c, s, g, h1, h2, h3, h4, by omega, h6, h7⟩
theorem Pen.same {p : Addr} {H H' : Hp} {n : Nat} (h : Pen p H n) (s : Same H H') : Pen p H' n := by
  obtain ⟨l, c, sp, g, h1, h2, h3, h4⟩ := h
  exact ⟨l, c, sp, g, s _ _ h1, h2, s _ _ h3, h4⟩
theorem Pen.new {p q : Addr} {H : Hp} {n : Nat} {o : HO} (h : Pen p H n) (hq : H q = none) : Pen p (upd H q o) n := h.same (Same.new hq)
theorem Pen.ne {p q : Addr} {H : Hp} {n : Nat} (h : Pen p H n) (hq : H q = none) : q ≠ p := by
  obtain ⟨l, c, sp, g, h1, _⟩ := h
  exact (ne_of_none h1 hq).symm
/-- a new object beside the pen -/
theorem Pen.at {p q : Addr} {H : Hp} {n : Nat} {o : HO} (h : Pen p H n) (hq : H q = none) : At p (upd H q o) q o := ⟨h.ne hq, upd_same⟩
theorem Pen.ins {p b C dx : Addr} {fs : List (Str × V)} {H : Hp} {n : Nat} (h : Pen p H n) (hb : H b = some (.ins C dx fs)) : At p H b (.ins C dx fs) := by
  obtain ⟨l, c, sp, g, h1, _⟩ := h
  exact ⟨ne_of hb h1 (by intro z; cases z), hb⟩
theorem Pen.tup {p b : Addr} {xs : List V} {H : Hp} {n : Nat} (h : Pen p H n) (hb : H b = some (.tup xs)) : At p H b (.tup xs) := by
  obtain ⟨l, c, sp, g, h1, _⟩ := h
  exact ⟨ne_of hb h1 (by intro z; cases z), hb⟩
/-! ### the promises of the law's own pen -/
def spPen (K : PySem.W.Frag) : Sp := fun vs H Q _ => ∃ (a : Addr) (ns : List Int), vs = [.ref a] ∧ SqL K H a (ns.map V.int) ∧ ns.length ≤ 63 ∧ ∀ (p : Addr) (H' : Hp), Same H H' → H p = none → Pen p H' 4000000 → Q (.ref p) H'
def spDraw : Sp := fun vs H Q _ => ∃ (p : Addr) (many : Int) (n : Nat), vs = [.ref p, .int many] ∧ 0 < many ∧ many.natAbs < 2 ^ 250 ∧ Pen p H (n + 1) ∧ ∀ (d : Int) (H' : Hp), Go p H H' → Pen p H' n → 0 ≤ d → d < many → Q (.int d) H'
def spPick (K : PySem.W.Frag) : Sp := fun vs H Q _ => ∃ (p q : Addr) (xs : List V) (n : Nat), vs = [.ref p, .ref q] ∧ At p H q (.lst xs) ∧ 0 < xs.length ∧ xs.length ≤ 1000 ∧ Pen p H (n + 1) ∧ ∀ (v : V) (H' : Hp), Go p H H' → Pen p H' n → v ∈ xs → Q v H'
/-! ### kinds -/
structure IsC (K : PySem.W.Frag) (C : Addr) : Prop where
  cl : Cls K C
  ha : PySem.W.findIn K (.ref C) "__class__" = some (some (.builtin "object.__class__"))
  hn : PySem.W.specialIn K (.builtin "object.__class__") "__get__" = some (some (.builtin "getset_descriptor.__get__"))
  htk : PySem.W.takesIn K (.builtin "object.__class__") = some true
  hm : PySem.W.mroIn K C (.type "object") = some true
theorem IsC.ty {K : PySem.W.Frag} {C a dx : Addr} {fs : List (Str × V)} {H : Hp} (i : IsC K C) (h : H a = some (.ins C dx fs)) : TyX K H (.ref a) (.ref C) := .base (.ins h i.cl i.ha i.hn i.htk i.hm)
theorem kit_int_int {K : PySem.W.Frag} : PySem.W.kitOne K (.type "int") (.type "int") = some true := kit_ty (by decide +kernel)
theorem kit_int_bool {K : PySem.W.Frag} : PySem.W.kitOne K (.type "int") (.type "bool") = some false := kit_ty (by decide +kernel)
theorem kit_bool_int {K : PySem.W.Frag} : PySem.W.kitOne K (.type "bool") (.type "int") = some true := kit_ty (by decide +kernel)
theorem kit_bool_bool {K : PySem.W.Frag} : PySem.W.kitOne K (.type "bool") (.type "bool") = some true := kit_ty (by decide +kernel)
theorem kit_self {K : PySem.W.Frag} {t : Value} : PySem.W.kitOne K t t = some true := by unfold PySem.W.kitOne; rw [if_pos (by simp)]
/-- a value that is no int (a bool may be) -/
def NoInt (K : PySem.W.Frag) (H : Hp) (x : V) : Prop := ∃ (t : Value) (b : Bool), TyX K H x t ∧ PySem.W.kitOne K t (.type "int") = some b ∧ (b = true → PySem.W.kitOne K t (.type "bool") = some true)
def spIsInt (K : PySem.W.Frag) : Sp := fun vs H Q _ => ∃ x, vs = [x] ∧ ((∃ i, x = .int i ∧ Q (.bl true) H) ∨ (NoInt K H x ∧ Q (.bl false) H))
def spBetween (K : PySem.W.Frag) : Sp := fun vs H Q _ => ∃ x lo hi, vs = [x, .int lo, .int hi] ∧ ((∃ i, x = .int i ∧ Q (.bl (decide (lo ≤ i ∧ i ≤ hi))) H) ∨ (NoInt K H x ∧ Q (.bl false) H))
def spMoment (K : PySem.W.Frag) : Sp := fun vs H Q _ => ∃ x, vs = [x] ∧ ((∃ i, x = .int i ∧ Q (.bl (decide (i.natAbs < 10 ^ 60))) H) ∨ (NoInt K H x ∧ Q (.bl false) H))
end Ol

namespace Ol
open PySem L2
/-! ### one reading, one step -/
section
variable {K : PySem.W.Frag} {σ : L2.St} {H : Hp} {Q : VK} {ta tb tc te : TE} {t u : TT} {ts us : TS} {tr : TA} {D : Ends} {v x y : V} {i j : Int} {C : Addr}
theorem t_ret (h : te σ H D.rt) : tRet te D σ H := h
theorem t_retN (h : D.rt .non H) : tRetN D σ H := h
theorem t_next (h : D.nx σ H) : tNext D σ H := h
theorem t_break (h : D.bk σ H) : tBreak D σ H := h
theorem t_cont (h : D.ct σ H) : tCont D σ H := h
theorem t_seq (h : ts { D with nx := us D } σ H) : tSeq ts us D σ H := h
theorem t_drop (h : te σ H fun _ H1 => D.nx σ H1) : tDrop te D σ H := h
theorem t_asg {g : TG} (h : te σ H fun x H1 => g x σ H1 D.nx) : tAsg te g D σ H := h
theorem t_name {k : Nat} {R : L2.St → Hp → Prop} (h : R (σ.set k (some v)) H) : gName k v σ H R := h
theorem t_ifS (h : t σ H fun b H1 => if b = true then ts D σ H1 else us D σ H1) : tIfS t ts us D σ H := h
theorem t_par {k l : Nat} (h : tr σ H fun vs H1 => ∃ v w, vs = [v, w] ∧ D.nx ((σ.set k (some v)).set l (some w)) H1) : tPar k l tr D σ H := h
theorem ex_par {P : V → V → Prop} (h : P x y) : ∃ v w, [x, y] = [v, w] ∧ P v w := ⟨x, y, rfl, h⟩
theorem t_var {k : Nat} (e : σ[k]? = some (some v)) (h : Q v H) : tVar k σ H Q := ⟨v, e, h⟩
theorem t_c (h : Q v H) : tC v σ H Q := h
theorem t_op {r : R2} (h : ta σ H fun x H1 => tb σ H1 fun y H2 => r x y H2 Q) : tOp r ta tb σ H Q := h
theorem t_un {r : V → Hp → VK → Prop} (h : ta σ H fun x H1 => r x H1 Q) : tUn r ta σ H Q := h
theorem t_andV (h : ta σ H fun x H1 => ∃ c, x = .bl c ∧ if c = true then tb σ H1 Q else Q (.bl false) H1) : tAndV ta tb σ H Q := h
theorem t_orV (h : ta σ H fun x H1 => ∃ c, x = .bl c ∧ if c = true then Q (.bl true) H1 else tb σ H1 Q) : tOrV ta tb σ H Q := h
theorem t_notV (h : ta σ H fun x H1 => ∃ c, x = .bl c ∧ Q (.bl (!c)) H1) : tNotV ta σ H Q := h
theorem t_if (h : t σ H fun c H1 => if c = true then ta σ H1 Q else tb σ H1 Q) : tIf t ta tb σ H Q := h
theorem t_B {R : Bool → Hp → Prop} (h : te σ H fun x H1 => ∃ c, x = .bl c ∧ R c H1) : tB te σ H R := h
theorem t_test {R : Bool → Hp → Prop} (h : te σ H fun x H1 => ∃ c, x = .bl c ∧ R c H1) : tTest te σ H R := h
theorem t_and {R : Bool → Hp → Prop} (h : t σ H fun c H1 => if c = true then u σ H1 R else R false H1) : tAnd t u σ H R := h
theorem t_or {R : Bool → Hp → Prop} (h : t σ H fun c H1 => if c = true then R true H1 else u σ H1 R) : tOr t u σ H R := h
theorem t_not {R : Bool → Hp → Prop} (h : t σ H fun c H1 => R (!c) H1) : tNot t σ H R := h
theorem t_chain {r r' : R2} (h : ta σ H fun x H1 => tb σ H1 fun y H2 => r x y H2 fun z H3 => ∃ k, z = .bl k ∧ (if k = true then tc σ H3 fun w' H4 => r' y w' H4 Q else Q (.bl false) H3)) : tChain r r' ta tb tc σ H Q := h
theorem t_cb {r : List V → Hp → VK → Prop} (h : tr σ H fun vs H1 => r vs H1 Q) : tCB r tr σ H Q := h
theorem t_nil {R : List V → Hp → Prop} (h : R [] H) : tNil σ H R := h
theorem t_cons {R : List V → Hp → Prop} (h : ta σ H fun x H1 => tr σ H1 fun xs H2 => R (x :: xs) H2) : tCons ta tr σ H R := h
theorem t_call {sp : Sp} {E : XK} (h : tr σ H fun vs H1 => sp vs H1 Q E) : tCall sp [] E tr σ H Q := by
  show tr σ H fun vs H1 => sp (vs ++ []) H1 Q E
  simpa only [List.append_nil] using h
theorem t_meth {m : Str} {sp : Sp} {E : XK} (h : ta σ H fun x H1 => ∃ a dx fs, x = .ref a ∧ H1 a = some (.ins C dx fs) ∧ fs.lookup m = none ∧ tr σ H1 fun vs H2 => sp (x :: vs) H2 Q E) : tMeth C m sp [] E ta tr σ H Q := by
  show ta σ H fun x H1 => ∃ a dx fs, x = .ref a ∧ H1 a = some (.ins C dx fs) ∧ fs.lookup m = none ∧ tr σ H1 fun vs H2 => sp (x :: (vs ++ [])) H2 Q E
  simpa only [List.append_nil] using h
theorem t_lst (h : tr σ H fun xs H1 => xs.length ≤ sizeLine ∧ ∀ p, H1 p = none → Q (.ref p) (upd H1 p (.lst xs))) : tLst tr σ H Q := h
theorem t_tup (h : tr σ H fun xs H1 => xs.length ≤ sizeLine ∧ ∀ p, H1 p = none → Q (.ref p) (upd H1 p (.tup xs))) : tTup tr σ H Q := h
theorem t_fld {f : Str} (h : ta σ H fun x H1 => ∃ a C dx fs v, x = .ref a ∧ H1 a = some (.ins C dx fs) ∧ Cls K C ∧ NoAttr K C f ∧ fs.lookup f = some v ∧ Q v H1) : tFld K ta f σ H Q := h
theorem t_sfld {f : Str} (h : tb σ H fun y H1 => ta σ H1 fun x H2 => ∃ a C dx fs, x = .ref a ∧ H2 a = some (.ins C dx fs) ∧ Cls K C ∧ NoAttr K C f ∧ fs.length < 1000 ∧ D.nx σ (upd H2 a (.ins C dx (putF f y fs)))) : sFld K ta tb f D σ H := h
theorem lst_ok {xs : List V} (h : Nat.ble xs.length 1000 = true) : xs.length ≤ sizeLine := Nat.le_trans (Nat.le_of_ble_eq_true h) (by decide)
theorem t_noPart {R : Option Int → Hp → Prop} (h : R none H) : tNoPart σ H R := h
theorem t_part {R : Option Int → Hp → Prop} (h : te σ H fun x H1 => ∃ i, x = .int i ∧ R (some i) H1) : tPart te σ H R := h
theorem t_sl {r : V → Option Int → Option Int → Hp → VK → Prop} {tl th : TO} (h : te σ H fun x H1 => tl σ H1 fun l H2 => th σ H2 fun u H3 => r x l u H3 Q) : tSl r te tl th σ H Q := h
theorem t_sub {to ti : TE} {ts : TSet} {R : L2.St → Hp → Prop} (h : to σ H fun o H1 => ti σ H1 fun i H2 => ts o i v H2 fun H3 => R σ H3) : gSub to ti ts v σ H R := h
theorem ex_bl {b : Bool} {P : Bool → Prop} (h : P b) : ∃ c, V.bl b = V.bl c ∧ P c := ⟨b, rfl, h⟩
theorem ex_int {P : Int → Prop} (h : P i) : ∃ c, V.int i = V.int c ∧ P c := ⟨i, rfl, h⟩
theorem r_I0 {g : Int → Int → V} (h : Q (g i j) H) : rI0 g (.int i) (.int j) H Q := ⟨i, j, rfl, rfl, h⟩
theorem r_I {c : Int → Int → Prop} {g : Int → Int → V} (hc : c i j) (h : Q (g i j) H) : rI c g (.int i) (.int j) H Q := ⟨i, j, rfl, rfl, hc, h⟩
theorem r_U {g : Int → V} (h : Q (g i) H) : rU g (.int i) H Q := ⟨i, rfl, h⟩
theorem dec_int {i j : Int} : decide (V.int i = V.int j) = decide (i = j) := by
  by_cases e : i = j
  · rw [e]; simp
  · rw [decide_eq_false e, decide_eq_false fun q => e (V.int.inj q)]
theorem dec_bl {i j : Bool} : decide (V.bl i = V.bl j) = decide (i = j) := by
  by_cases e : i = j
  · rw [e]; simp
  · rw [decide_eq_false e, decide_eq_false fun q => e (V.bl.inj q)]
theorem dec_str {i j : Str} : decide (V.str i = V.str j) = decide (i = j) := by
  by_cases e : i = j
  · rw [e]; simp
  · rw [decide_eq_false e, decide_eq_false fun q => e (V.str.inj q)]
theorem r_eqI (h : Q (.bl (decide (i = j))) H) : rEq (.int i) (.int j) H Q := ⟨rfl, by rw [dec_int]; exact h⟩
theorem r_neI (h : Q (.bl (!decide (i = j))) H) : rNe (.int i) (.int j) H Q := ⟨rfl, by rw [dec_int]; exact h⟩
theorem r_eqB {i j : Bool} (h : Q (.bl (decide (i = j))) H) : rEq (.bl i) (.bl j) H Q := ⟨rfl, by rw [dec_bl]; exact h⟩
theorem r_neB {i j : Bool} (h : Q (.bl (!decide (i = j))) H) : rNe (.bl i) (.bl j) H Q := ⟨rfl, by rw [dec_bl]; exact h⟩
theorem r_eqS {i j : Str} (h : Q (.bl (decide (i = j))) H) : rEq (.str i) (.str j) H Q := ⟨rfl, by rw [dec_str]; exact h⟩
theorem r_neS {i j : Str} (h : Q (.bl (!decide (i = j))) H) : rNe (.str i) (.str j) H Q := ⟨rfl, by rw [dec_str]; exact h⟩
theorem r_ixL {p : Addr} {xs : List V} (h : SqL K H p xs) (e : atI xs i = some v) (q : Q v H) : rIxL K (.ref p) (.int i) H Q := ⟨p, xs, i, v, rfl, rfl, h, e, q⟩
theorem r_ixT {p : Addr} {xs : List V} (h : SqT K H p xs) (e : atI xs i = some v) (q : Q v H) : rIxT K (.ref p) (.int i) H Q := ⟨p, xs, i, v, rfl, rfl, h, e, q⟩
theorem c_int1 {P : Int → Prop} {R : Prop} (h : P i) : (∃ k, [V.int i] = [V.int k] ∧ P k) ∨ R := .inl ⟨i, rfl, h⟩
theorem c_intB {b : Bool} {P : Bool → Prop} {R : Prop} (h : P b) : R ∨ ∃ k, [V.bl b] = [V.bl k] ∧ P k := .inr ⟨b, rfl, h⟩
theorem ite_n {b : Bool} {A B : Prop} (h : if b = true then B else A) : if (!b) = true then A else B := by cases b <;> exact h
theorem ite_y {c : Prop} [Decidable c] {A B : Prop} (hc : c) (h : A) : if decide c = true then A else B := by rw [decide_eq_true hc]; exact iteT h
theorem ite_f {c : Prop} [Decidable c] {A B : Prop} (hc : ¬ c) (h : B) : if decide c = true then A else B := by rw [decide_eq_false hc]; exact iteF h
theorem ite_d {c : Prop} [Decidable c] {A B : Prop} (h1 : c → A) (h2 : ¬ c → B) : if decide c = true then A else B := by
  by_cases hc : c
  · exact ite_y hc (h1 hc)
  · exact ite_f hc (h2 hc)
theorem t_make {sp : Sp} {E : XK} (h : tr σ H fun vs H1 => ∀ x dx, H1 x = none → H1 dx = none → dx ≠ x → sp (.ref x :: vs) (upd (upd H1 dx (.own x)) x (.ins C dx [])) (fun v H2 => v = .non ∧ Q (.ref x) H2) E) : tMake C sp [] E tr σ H Q := by
  show tr σ H fun vs H1 => ∀ x dx, H1 x = none → H1 dx = none → dx ≠ x → sp (.ref x :: (vs ++ [])) (upd (upd H1 dx (.own x)) x (.ins C dx [])) (fun v H2 => v = .non ∧ Q (.ref x) H2) E
  simpa only [List.append_nil] using h
theorem t_par3 {k l m : Nat} (h : tr σ H fun vs H1 => ∃ u v w, vs = [u, v, w] ∧ D.nx (((σ.set k (some u)).set l (some v)).set m (some w)) H1) : tPar3 k l m tr D σ H := h
def ForW (J : L2.It) (g : TG) (tb : TS) (D : Ends) (σ : L2.St) (H1 : Hp) : Prop := ∃ W : Nat → Nat → L2.St → Hp → Prop, (∃ m, W 0 m σ H1) ∧ ∀ i m σ H, W i m σ H →
  (J.stop i H ∧ D.nx σ H) ∨ (J.go i H ∧ ∃ N : L2.St → Hp → Prop, (∀ σ' H', N σ' H' → ∃ m', m' < m ∧ W (i + 1) m' σ' H') ∧ ∀ x H', J.yld i H x H' → g x σ H' fun σ2 H2 => tb { D with nx := N, ct := N, bk := D.nx } σ2 H2)
theorem t_for1 {g : TG} (h : tr σ H fun vs H1 => ∃ j : Int, vs = [.int j] ∧ -(2 ^ 62) ≤ j ∧ j < 2 ^ 62 ∧ ForW (Itr 0 j.toNat) g ts D σ H1) : tFor (iRng1 tr) g ts D σ H := h
theorem t_forL {g : TG} (h : ta σ H fun x H1 => ∃ a, x = .ref a ∧ (∃ xs, SqL K H1 a xs) ∧ ForW (Itl K a) g ts D σ H1) : tFor (iList K ta) g ts D σ H := h
theorem t_forT {g : TG} (h : ta σ H fun x H1 => ∃ a, x = .ref a ∧ (∃ xs, SqT K H1 a xs) ∧ ForW (Itt K a) g ts D σ H1) : tFor (iTup K ta) g ts D σ H := h
theorem ex_rng {g : TG} {n : Nat} {j : Int} (hj : j = (n : Int)) (hn : n < 2 ^ 62) (Pv : Nat → L2.St → Hp → Prop) (h0 : Pv 0 σ H) (hs : ∀ (i : Nat) σ H, i < n → Pv i σ H → g (.int (i : Int)) σ H fun σ2 H2 => ts { D with nx := Pv (i + 1), ct := Pv (i + 1), bk := D.nx } σ2 H2)
    (hd : ∀ σ H, Pv n σ H → D.nx σ H) : -(2 ^ 62) ≤ j ∧ j < 2 ^ 62 ∧ ForW (Itr 0 j.toNat) g ts D σ H := by
  subst hj
  refine ⟨by omega, by omega, for_range (lo := 0) (n := n) Pv h0 (fun i σ H hi p => ?_) hd⟩
  rw [Int.zero_add]
  exact hs i σ H hi p
theorem ex_lst {g : TG} {a : Addr} {xs : List V} (hx : SqL K H a xs) (Pv : Nat → L2.St → Hp → Prop) (h0 : Pv 0 σ H) (hl : ∀ i σ H, i ≤ xs.length → Pv i σ H → SqL K H a xs)
    (hs : ∀ i x σ H, xs[i]? = some x → Pv i σ H → g x σ H fun σ2 H2 => ts { D with nx := Pv (i + 1), ct := Pv (i + 1), bk := D.nx } σ2 H2) (hd : ∀ σ H, Pv xs.length σ H → D.nx σ H) :
    ∃ b, V.ref a = .ref b ∧ (∃ xs, SqL K H b xs) ∧ ForW (Itl K b) g ts D σ H := ⟨a, rfl, ⟨xs, hx⟩, for_list Pv h0 hl hs hd⟩
theorem ex_tup {g : TG} {a : Addr} {xs : List V} (hx : SqT K H a xs) (Pv : Nat → L2.St → Hp → Prop) (h0 : Pv 0 σ H) (hl : ∀ i σ H, i ≤ xs.length → Pv i σ H → SqT K H a xs)
    (hs : ∀ i x σ H, xs[i]? = some x → Pv i σ H → g x σ H fun σ2 H2 => ts { D with nx := Pv (i + 1), ct := Pv (i + 1), bk := D.nx } σ2 H2) (hd : ∀ σ H, Pv xs.length σ H → D.nx σ H) :
    ∃ b, V.ref a = .ref b ∧ (∃ xs, SqT K H b xs) ∧ ForW (Itt K b) g ts D σ H := ⟨a, rfl, ⟨xs, hx⟩, for_tup Pv h0 hl hs hd⟩
theorem dpAll_ints : ∀ ns : List Int, DpAll K H (ns.map V.int) (ns.map PyData.int)
  | [] => .nil
  | n :: r => .cons (.int n) (dpAll_ints r)
theorem r_neNil {p q : Addr} {ns : List Int} (h1 : SqL K H p (ns.map V.int)) (h2 : SqL K H q []) (h : Q (.bl (!ns.isEmpty)) H) : rNeD K (.ref p) (.ref q) H Q := by
  refine ⟨_, _, .lst h1 (dpAll_ints ns), .lst h2 .nil, PySem.W.ke_shaped_ints ns, by decide, ?_⟩
  cases ns with
  | nil => exact h
  | cons n r => exact h
theorem c_len {p : Addr} {xs : List V} {P : List V → Prop} (h : SqL K H p xs ∨ SqT K H p xs) (q : P xs) : ∃ a ys, [V.ref p] = [.ref a] ∧ (SqL K H a ys ∨ SqT K H a ys) ∧ P ys := ⟨p, xs, rfl, h, q⟩
theorem c_abs {P : Int → Prop} (h : P i) : ∃ k, [V.int i] = [.int k] ∧ P k := ⟨i, rfl, h⟩
theorem ex_par3 {z : V} {P : V → V → V → Prop} (h : P x y z) : ∃ v w u, [x, y, z] = [v, w, u] ∧ P v w u := ⟨x, y, z, rfl, h⟩
theorem abs_lt60 {i : Int} : decide ((if i < 0 then -i else i) < 10 ^ Int.toNat 60) = decide (i.natAbs < 10 ^ 60) := by
  have e : (10 : Int) ^ Int.toNat 60 = ((10 ^ 60 : Nat) : Int) := by decide
  rw [e]
  generalize (10 ^ 60 : Nat) = n
  by_cases h : i.natAbs < n
  · rw [decide_eq_true h, decide_eq_true]; split <;> omega
  · rw [decide_eq_false h, decide_eq_false]; split <;> omega
end
theorem cut63 {ns : List Int} (h : ns.length ≤ 63) : cutV (ns.map V.int) none (some 63) = ns.map V.int := by
  have e1 : HT.sIx (ns.map V.int).length 0 none = 0 := rfl
  have e2 : HT.sIx (ns.map V.int).length (ns.map V.int).length (some 63) = ns.length := by
    unfold HT.sIx
    simp only [List.length_map]
    first | omega | (split <;> omega) | (simp; omega)
  unfold cutV
  rw [e1, e2, List.drop_zero, Nat.sub_zero, ← List.length_map (f := V.int), List.take_length]
theorem at_ints {ns : List Int} {i : Int} (h0 : 0 ≤ i) (h1 : i < ns.length) : ∃ c, atI (ns.map V.int) i = some (.int c) := by
  obtain ⟨j, rfl⟩ : ∃ j : Nat, i = j := ⟨i.toNat, by omega⟩
  have hj : j < ns.length := by omega
  refine ⟨ns[j], ?_⟩
  unfold atI
  rw [List.length_map, Evl.ixN_nat hj]
  simp [hj]
theorem at_mem {xs : List V} {i : Int} (h0 : 0 ≤ i) (h1 : i < xs.length) : ∃ v, atI xs i = some v ∧ v ∈ xs := by
  obtain ⟨j, rfl⟩ : ∃ j : Nat, i = j := ⟨i.toNat, by omega⟩
  have hj : j < xs.length := by omega
  refine ⟨xs[j], ?_, List.getElem_mem hj⟩
  unfold atI
  rw [Evl.ixN_nat hj]
  simp [hj]
theorem t_cut {D : Ends} {σ : L2.St} {H : Hp} {ts us : TS} (Mid : L2.St → Hp → Prop) (h1 : ts { D with nx := Mid } σ H) (h2 : ∀ σ' H', Mid σ' H' → us D σ' H') : Evl.tCut ts us D σ H := ⟨Mid, h1, h2⟩
theorem mix_lt {b s k m c : Int} (b0 : 0 ≤ b) (b1 : b < 2147483648) (s0 : 0 ≤ s) (s1 : s ≤ 4000000) (k0 : 0 ≤ k) (k1 : k ≤ 1000) (m0 : 0 ≤ m) (m1 : m ≤ 100000) (c0 : 0 ≤ c) (c1 : c ≤ 1000) : (b * (2 * s + k) + m * s * s + c).natAbs < 2 ^ 64 := by
  have h1 : b * (2 * s + k) ≤ 2147483648 * 8001000 := Int.mul_le_mul (by omega) (by omega) (by omega) (by omega)
  have h2 : 0 ≤ b * (2 * s + k) := Int.mul_nonneg b0 (by omega)
  have h3 : m * s ≤ 100000 * 4000000 := Int.mul_le_mul m1 s1 s0 (by omega)
  have h4 : 0 ≤ m * s := Int.mul_nonneg m0 s0
  have h5 : m * s * s ≤ (100000 * 4000000) * 4000000 := Int.mul_le_mul h3 s1 s0 (by omega)
  have h6 : 0 ≤ m * s * s := Int.mul_nonneg h4 s0
  omega
theorem Go.set {p : Addr} {H : Hp} {o : HO} : Go p H (upd H p o) := fun b u n e => by rw [upd_ne n]; exact e
theorem if_int {b : Bool} {σ : L2.St} {H : Hp} {Q : VK} {ta tb : TE} {i j : Int} (h1 : ∀ Q : VK, Q (.int i) H → ta σ H Q) (h2 : ∀ Q : VK, Q (.int j) H → tb σ H Q) (h : Q (.int (if b = true then i else j)) H) : if b = true then ta σ H Q else tb σ H Q := by
  cases b with
  | true => exact h1 Q h
  | false => exact h2 Q h
/-! ### days -/
def DayAt (C : Addr) (H : Hp) (a : Addr) (L : Int) : Prop := (1 ≤ L ∧ L ≤ 1000000000000) ∧ ∃ dx, H a = some (.ins C dx [("length", .int L)])
theorem DayAt.same {C : Addr} {H H' : Hp} {a : Addr} {L : Int} (d : DayAt C H a L) (s : Same H H') : DayAt C H' a L := ⟨d.1, let ⟨dx, h⟩ := d.2; ⟨dx, s _ _ h⟩⟩
theorem DayAt.go {C p : Addr} {H H' : Hp} {a : Addr} {L : Int} {n : Nat} (d : DayAt C H a L) (P : Pen p H n) (g : Go p H H') : DayAt C H' a L := ⟨d.1, let ⟨dx, h⟩ := d.2; ⟨dx, ((P.ins h).go g).at_⟩⟩
theorem DayAt.new {C q : Addr} {H : Hp} {a : Addr} {L : Int} {o : HO} (d : DayAt C H a L) (h : H q = none) : DayAt C (upd H q o) a L := d.same (Same.new h)
def spLongBy : Sp := fun vs H Q _ => ∃ L k : Int, vs = [.int L, .int k] ∧ (1 ≤ L ∧ L ≤ 1000000000000) ∧ (1 ≤ k * L ∧ k * L ≤ 1000000000000) ∧ Q (.int (k * L)) H
def spDayInit (C : Addr) : Sp := fun vs H Q _ => ∃ (a dx : Addr) (L : Int), vs = [.ref a, .int L] ∧ (1 ≤ L ∧ L ≤ 1000000000000) ∧ H a = some (.ins C dx []) ∧ Q .non (upd H a (.ins C dx [("length", .int L)]))
def spRmod (C : Addr) : Sp := fun vs H Q _ => ∃ (a : Addr) (m L : Int), vs = [.ref a, .int m] ∧ DayAt C H a L ∧ m.natAbs < 10 ^ 60 ∧ Q (.int (m % L)) H
def spRfdiv (C : Addr) : Sp := fun vs H Q _ => ∃ (a : Addr) (m L : Int), vs = [.ref a, .int m] ∧ DayAt C H a L ∧ m.natAbs < 10 ^ 60 ∧ Q (.int (m / L)) H
def spForward (C : Addr) : Sp := fun vs H Q _ => ∃ (a : Addr) (m n L : Int), vs = [.ref a, .int m, .int n] ∧ DayAt C H a L ∧ m.natAbs < 10 ^ 60 ∧ n.natAbs < 10 ^ 60 ∧ ∀ H', Same H H' → Q (.int ((n - m) % L)) H'
def spDayMul (C : Addr) : Sp := fun vs H Q _ => ∃ (a : Addr) (k L : Int), vs = [.ref a, .int k] ∧ DayAt C H a L ∧ (1 ≤ k * L ∧ k * L ≤ 1000000000000) ∧ ∀ b H', Same H H' → H b = none → DayAt C H' b (k * L) → Q (.ref b) H'
def spDayEq (C : Addr) : Sp := fun vs H Q _ => ∃ (a b : Addr) (L M : Int), vs = [.ref a, .ref b] ∧ DayAt C H a L ∧ DayAt C H b M ∧ Q (.bl (decide (L = M))) H
theorem make_day {C : Addr} {H : Hp} {L : Int} {R : Addr → Hp → Prop} {E : XK} (hL : 1 ≤ L ∧ L ≤ 1000000000000) (h : ∀ b H', Same H H' → H b = none → DayAt C H' b L → R b H') :
    ∀ x dx, H x = none → H dx = none → dx ≠ x → spDayInit C [.ref x, .int L] (upd (upd H dx (.own x)) x (.ins C dx [])) (fun v H2 => v = .non ∧ R x H2) E := by
  intro x dx hx hd ne
  refine ⟨x, dx, L, rfl, hL, upd_same, rfl, h x _ (fun b o e => ?_) hx ⟨hL, dx, upd_same⟩⟩
  rw [upd_ne (ne_of_none e hx), upd_ne (ne_of_none e hx), upd_ne (ne_of_none e hd)]
  exact e
section
variable {K : PySem.W.Frag} {C a b : Addr} {H : Hp} {Q : VK} {E : XK} {L M m n k : Int} {R : Prop}
theorem notFirst_self : PySem.W.notFirst K C (.ref C) = true := by unfold PySem.W.notFirst; simp
theorem r_rmod (d : DayAt C H a L) (hm : m.natAbs < 10 ^ 60) (q : Q (.int (m % L)) H) : rRefl C (spRmod C) E (.int m) (.ref a) H Q := by
  obtain ⟨_, dx, h⟩ := id d
  exact ⟨m, a, dx, _, rfl, rfl, h, a, m, L, rfl, d, hm, q⟩
theorem r_rfdiv (d : DayAt C H a L) (hm : m.natAbs < 10 ^ 60) (q : Q (.int (m / L)) H) : rRefl C (spRfdiv C) E (.int m) (.ref a) H Q := by
  obtain ⟨_, dx, h⟩ := id d
  exact ⟨m, a, dx, _, rfl, rfl, h, a, m, L, rfl, d, hm, q⟩
theorem x_fwd (d : DayAt C H a L) (k : R) : ∃ a' dx fs, V.ref a = V.ref a' ∧ H a' = some (.ins C dx fs) ∧ fs.lookup ("forward" : Str) = none ∧ R := by
  obtain ⟨_, dx, h⟩ := id d
  exact ⟨a, dx, _, rfl, h, rfl, k⟩
theorem s_fwd (d : DayAt C H a L) (hm : m.natAbs < 10 ^ 60) (hn : n.natAbs < 10 ^ 60) (k : ∀ H', Same H H' → Q (.int ((n - m) % L)) H') : spForward C [.ref a, .int m, .int n] H Q E := ⟨a, m, n, L, rfl, d, hm, hn, k⟩
theorem r_dmul (d : DayAt C H a L) (hk : 1 ≤ k * L ∧ k * L ≤ 1000000000000) (q : ∀ b H', Same H H' → H b = none → DayAt C H' b (k * L) → Q (.ref b) H') : rOwnL K C "int" (spDayMul C) E (.ref a) (.int k) H Q := by
  obtain ⟨_, dx, h⟩ := id d
  exact ⟨a, dx, _, rfl, h, .base (.int k), a, k, L, rfl, d, hk, q⟩
theorem r_rdmul (d : DayAt C H a L) (hk : 1 ≤ k * L ∧ k * L ≤ 1000000000000) (q : ∀ b H', Same H H' → H b = none → DayAt C H' b (k * L) → Q (.ref b) H') : rRefl C (spDayMul C) E (.int k) (.ref a) H Q := by
  obtain ⟨_, dx, h⟩ := id d
  exact ⟨k, a, dx, _, rfl, rfl, h, a, k, L, rfl, d, hk, q⟩
theorem r_deq (I : IsC K C) (d : DayAt C H a L) (e : DayAt C H b M) (q : Q (.bl (decide (L = M))) H) : rCmpO K C (spDayEq C) E (.ref a) (.ref b) H Q := by
  obtain ⟨_, dx, h⟩ := id d
  obtain ⟨_, dy, h2⟩ := id e
  exact ⟨a, dx, _, _, rfl, h, I.ty h2, notFirst_self, a, b, L, M, rfl, d, e, q⟩
theorem r_dne (I : IsC K C) (d : DayAt C H a L) (e : DayAt C H b M) (q : Q (.bl (!decide (L = M))) H) : rNeO K C (spDayEq C) E (.ref a) (.ref b) H Q := by
  obtain ⟨_, dx, h⟩ := id d
  obtain ⟨_, dy, h2⟩ := id e
  exact ⟨a, dx, _, _, rfl, h, I.ty h2, notFirst_self, a, b, L, M, rfl, d, e, _, rfl, q⟩
theorem x_len (c : Cls K C) (n : NoAttr K C "length") (d : DayAt C H a L) {P : V → Prop} (q : P (.int L)) : ∃ a' C' dx fs v, V.ref a = V.ref a' ∧ H a' = some (.ins C' dx fs) ∧ Cls K C' ∧ NoAttr K C' "length" ∧ fs.lookup ("length" : Str) = some v ∧ P v := by
  obtain ⟨_, dx, h⟩ := id d
  exact ⟨a, C, dx, _, _, rfl, h, c, n, rfl, q⟩
end
end Ol

namespace Ol
open PySem PySem.Spec PyProof.Rows L2
/-- a def's promise where no repr runs around the call -/
structure FnG (P : Program) (w : World) (K : PySem.W.Frag) (mg : Str → Option Value) (base : Heap) (CX : CXT) (k : Nat) (f : Addr) (fd : FuncData) (ps : List Str) (sp : Sp) : Prop where
  len : ∀ vs H Q E, sp vs H Q E → vs.length = ps.length
  run : ∀ (A : Around) (outer : List Env) (s : Shared) (H : Hp) (args : Args) (us : List Value) (vs : List V) (Q : VK) (E : XK), A.guards = some [] → Room k A → Env0 P w K mg base A outer s H → BindsTo s fd args (ps.zip us) → Vals vs us → sp vs H Q E →
    codeAny (model P w) A (.call (.ref f) args) (CR CX outer P w H s Q E) s
section
variable {P : Program} {w : World} {K : PySem.W.Frag} {mg : Str → Option Value} {base : Heap} {CX : CXT} {k : Nat} {f : Addr} {fd : FuncData} {ps : List Str} {sp : Sp}
theorem FnG.of (F : FnOk P w K mg base CX k f fd ps sp) : FnG P w K mg base CX k f fd ps sp := ⟨F.len, fun A o s H a u v Q E _ => F.run A o s H a u v Q E⟩
/-- a def by its body, where no repr runs around it -/
theorem Fun.okG {x qual : Str} {st : Stmt} {N : List Str} (F : Fun K x qual st f fd) (S : FnScope N ps (defScope st)) (len : ∀ vs H Q E, sp vs H Q E → vs.length = ps.length)
    (hbody : ∀ (cdv : Value) (A : Around) (outer : List Env) (s : Shared) (H : Hp) (vs : List V) (Q : VK) (E : XK), (A.deeper (envOfC qual (defScope st) s.heap.objs.size f cdv)).guards = some [] → Room k (A.deeper (envOfC qual (defScope st) s.heap.objs.size f cdv)) → sp vs H Q E →
      ∃ t, PSs (cxOf CX P w K mg base N qual (defScope st) f cdv A outer s H E) (defBody st) t ∧ t { nx := fun _ H' => Q .non H', rt := Q } (L2.start N vs) H) : FnG P w K mg base CX (k + 1) f fd ps sp := by
  obtain ⟨oc, od, kV, doc, pm, an, cdv, ct, osl, rfl, lk, hcd⟩ := F.ex
  refine ⟨len, fun A outer s H args us vs Q E hg hr e0 hb r hsp => ?_⟩
  have hk : ∀ b o, base.get? b = some o → s.heap.get? b = some o := fun b o e => (e0.bs b o e).1
  have KX := e0.mod.kin.keeps hk
  refine codeAny_call_function hr.depth (KX _ _ lk) rfl S.co S.gen rfl (PySem.W.codeRec_of KX hcd) (hb _ _ _ _ ?_)
  refine wpAny_newFunctionEnv_cells S.kind (fun y hy => ?_) fun env he s1 x => ?_
  · rcases S.par y.1 (List.of_mem_zip hy).1 with q | q
    · exact .inl q
    · exact .inr ⟨q, PySem.W.cellsFrom_some _ _ _ (.inl q)⟩
  subst he
  refine ⟨(e0.mod.nolimit.keeps hk).keeps x.toInCall.keep, codeAny_func ?_⟩
  obtain ⟨t, ht, hq⟩ := hbody cdv A outer s H vs Q E hg (hr.deeper _) hsp
  have I : Inv (cxOf CX P w K mg base N qual (defScope st) f cdv A outer s H E) [] (L2.start N vs) H s1 := inv_start S hr.hd e0 (len _ _ _ _ hsp) r x
  refine wpAny_mono (ht.run [] s1 _ H _ I hq) (fun fl s' hs => ?_) fun e s' hs => hs
  cases fl with
  | ret u =>
    obtain ⟨v, σ', H', J, rv, q⟩ := hs
    exact ⟨v, H', J.os, J.bare, J.base, J.hok, rv, q⟩
  | next =>
    obtain ⟨σ', H', J, q⟩ := hs
    exact ⟨.non, H', J.os, J.bare, J.base, J.hok, rfl, q⟩
  | brk =>
    obtain ⟨_, _, _, q⟩ := hs
    exact False.elim q
  | cont =>
    obtain ⟨_, _, _, q⟩ := hs
    exact False.elim q
end
section
variable {X : Cx} {CX : CXT} {k : Nat} {f C : Addr} {fd : FuncData} {ps : List Str} {sp : Sp} {E : XK} {x : Str} {p pos : Pos} {e : Expr} {es : List Expr} {t : TA}
theorem run_fnG {pins : List (Addr × Obj)} {σ : L2.St} {H : Hp} {s : Shared} {Q : VK} {us : List Value} {vs : List V} (F : FnG X.prog X.w X.K X.mg X.base CX k f fd ps sp) (hg : X.A.guards = some []) (hr : Room k X.A) (hb : Binds X.K fd ps []) (hx : Passes CX X E)
    (I : Inv X pins σ H s) (r : Vals vs us) (h : sp vs H Q E) : wpAny (model X.prog X.w) X.A (call (.ref f) us) (EP X pins σ Q) X.xe s := by
  have hl : us.length = ps.length := by rw [← r.length]; exact F.len _ _ _ _ h
  have hb' := hb s us I.kIn (by rw [List.append_nil]; exact hl)
  rw [List.append_nil] at hb'
  refine wpAny_call (codeAny_mono (F.run X.A X.stack s H ⟨us, []⟩ us vs Q E hg hr I.env0 hb' r h) fun r s' hq => ?_)
  cases r with
  | error e => exact hx pins σ H s e s' I hq
  | ok fl =>
    cases fl with
    | ret u => exact I.after hq
    | next => exact False.elim hq
    | brk => exact False.elim hq
    | cont => exact False.elim hq
theorem pe_callG (F : FnG X.prog X.w X.K X.mg X.base CX k f fd ps sp) (hgd : X.A.guards = some []) (hr : Room k X.A) (hg : Gl X x) (hm : X.mg x = some (.ref f)) (hk : PySem.W.keepIn X.K (.ref f) = true) (hb : Binds X.K fd ps []) (hx : Passes CX X E)
    (ha : PA X (e :: es) t) (hdb : (x == ("__debug__" : Str)) = false := by decide) (he : starEach (e :: es) X.env = (false, eval e X.env) :: starEach es X.env := by rfl) (hpl : (backTo pos (starEach es X.env)).any (·.1) = false := by rfl) :
    PE X (.Call (.Name x p) (e :: es) [] pos) (tCall sp [] E t) := by
  refine ⟨fun pins s σ H Q I h => ?_⟩
  refine wpAny_Call_Name_kw (ld_glob I hg hm ?_ hdb)
  refine PySem.W.callWith_K (h₀ := X.base) I.ok.mod.kin hk (thn (ha.run pos pins s σ H _ I h) fun us s1 ⟨vs, H1, I1, r, q⟩ => ⟨I1.kIn, ?_⟩) he hpl
  have q' : sp (vs ++ []) H1 Q E := q
  rw [List.append_nil] at q'
  exact run_fnG F hgd hr hb hx I1 r q'
theorem pe_call0G (F : FnG X.prog X.w X.K X.mg X.base CX k f fd ps sp) (hgd : X.A.guards = some []) (hr : Room k X.A) (hg : Gl X x) (hm : X.mg x = some (.ref f)) (hk : PySem.W.keepIn X.K (.ref f) = true) (hb : Binds X.K fd ps []) (hx : Passes CX X E)
    (hdb : (x == ("__debug__" : Str)) = false := by decide) : PE X (.Call (.Name x p) [] [] pos) (tCall sp [] E tNil) := by
  refine ⟨fun pins s σ H Q I h => ?_⟩
  refine wpAny_Call_Name_kw (ld_glob I hg hm ?_ hdb)
  exact PySem.W.callWith_K0 I.kIn hk (run_fnG (us := []) F hgd hr hb hx I .nil h)
/-- data that repr shows in at most n signs -/
structure Sh (d : PyData) (n k : Nat) : Prop where
  s : d.showable = true
  h : d.hasDict = false
  l : d.shown.length ≤ n
  k : d.depth ≤ k
theorem Sh.le {d : PyData} {n m k j : Nat} (x : Sh d n k) (h : n ≤ m) (h2 : k ≤ j) : Sh d m j := ⟨x.s, x.h, Nat.le_trans x.l h, Nat.le_trans x.k h2⟩
theorem Sh.none : Sh .none 4 0 := ⟨rfl, rfl, by decide, Nat.le_refl _⟩
theorem Sh.bool (b : Bool) : Sh (.bool b) 5 0 := ⟨rfl, rfl, by cases b <;> decide, Nat.le_refl _⟩
theorem Sh.int {i : Int} (h : i.natAbs < 10 ^ 75) : Sh (.int i) 76 0 := by
  have e : i.natAbs < 2 ^ 250 := Nat.lt_trans h (by decide)
  refine ⟨decide_eq_true (Nat.lt_of_lt_of_le (PySem.Flt.log2_lt_of (by decide) e) (by decide)), rfl, ?_, Nat.le_refl _⟩
  show (Str.ofString (toString i)).length ≤ 76
  have h1 := int_text_length_le10 (a := i) (k := 75) (by decide) h
  rw [PyProof.Rows.ofString_len]
  exact h1
theorem shAll {n k : Nat} : ∀ {ds : List PyData}, (∀ d ∈ ds, Sh d n k) → PyData.showableAll ds = true ∧ PyData.hasDictAll ds = false ∧ ((PyData.shownAll ds).map (·.length)).sum ≤ ds.length * n ∧ PyData.depthAll ds ≤ k
  | [], _ => ⟨rfl, rfl, by simp [PyData.shownAll], Nat.zero_le _⟩
  | d :: r, h => by
    obtain ⟨h1, h2, h3, h4⟩ := shAll fun e he => h e (List.mem_cons_of_mem _ he)
    have x := h d List.mem_cons_self
    refine ⟨?_, ?_, ?_, ?_⟩
    · show (d.showable && PyData.showableAll r) = true
      rw [x.s, h1]; rfl
    · show (d.hasDict || PyData.hasDictAll r) = false
      rw [x.h, h2]; rfl
    · show ((d.shown :: PyData.shownAll r).map (·.length)).sum ≤ (d :: r).length * n
      rw [List.map_cons, List.sum_cons, List.length_cons, Nat.add_mul, Nat.one_mul]
      have := x.l
      omega
    · show max d.depth (PyData.depthAll r) ≤ k
      exact Nat.max_le.mpr ⟨x.k, h4⟩
theorem Sh.list {ds : List PyData} {n k : Nat} (h : ∀ d ∈ ds, Sh d n k) : Sh (.list ds) (ds.length * n + 2 * ds.length + 3) (k + 1) := by
  obtain ⟨h1, h2, h3, h4⟩ := shAll h
  refine ⟨h1, h2, ?_, ?_⟩
  · have a := listText_len_le (PyData.shownAll ds)
    have b := PyData.shownAll_length ds
    show (listText (PyData.shownAll ds)).length ≤ _
    omega
  · show PyData.depth (.list ds) ≤ k + 1
    simp only [PyData.depth]
    omega
theorem Sh.tuple {ds : List PyData} {n k : Nat} (h : ∀ d ∈ ds, Sh d n k) : Sh (.tuple ds) (ds.length * n + 2 * ds.length + 3) (k + 1) := by
  obtain ⟨h1, h2, h3, h4⟩ := shAll h
  refine ⟨h1, h2, ?_, ?_⟩
  · have a := tupleText_len_le (PyData.shownAll ds)
    have b := PyData.shownAll_length ds
    show (tupleText (PyData.shownAll ds)).length ≤ _
    omega
  · show PyData.depth (.tuple ds) ≤ k + 1
    simp only [PyData.depth]
    omega
/-- repr of data: None, bools, numbers, texts, lists, tuples -/
def rRepr (K : PySem.W.Frag) : List V → Hp → VK → Prop := fun xs H Q => ∃ (x : V) (d : PyData) (n : Nat), xs = [x] ∧ Dp K H x d ∧ Sh d n 40 ∧ n ≤ sizeLine ∧ Q (.str d.shown) H
theorem call_reprD {k : Nat} (hgd : X.A.guards = some []) (hr : Room k X.A) : CallR X (.builtin "repr") (rRepr X.K) := by
  intro pins s σ H xs us Q I r h
  obtain ⟨x, d, n, rfl, dp, sh, hn, q⟩ := h
  obtain ⟨u, rfl, ru⟩ := vals1 r
  have hz := Nat.le_trans sh.l hn
  cases dp with
  | non => cases (show u = Value.none from ru); exact PySem.P.repr_of_none ⟨.str _, H, I.tok _, ⟨_, rfl⟩, q⟩
  | bl b => cases (show u = Value.bool b from ru); exact PySem.P.repr_of_bool ⟨.str _, H, I.tok _, ⟨_, by cases b <;> rfl⟩, q⟩
  | int i => obtain ⟨t, e⟩ := (show ∃ t, u = Value.int i t from ru); cases e; exact PySem.P.repr_of_int (of_decide_eq_true sh.s) ⟨.str _, H, I.tok _, ⟨_, rfl⟩, q⟩
  | str y => obtain ⟨t, e⟩ := (show ∃ t, u = Value.str y t from ru); cases e; exact PySem.P.repr_of_str ⟨.str _, H, I.tok _, ⟨_, rfl⟩, q⟩ hz
  | @lst a ys ds h1 h2 =>
    cases (show u = Value.ref a from ru)
    obtain ⟨as, rd⟩ := Dp.reads I _ _ _ (.lst h1 h2) rfl
    exact repr_of_reads' rd sh.s (PyData.noDict_hsm sh.h) hgd (by have := sh.k; have := hr.un; omega) (fun _ _ e => e) (fun h' t tk hk => ⟨.str _, H, I.kept hk, ⟨_, rfl⟩, q⟩) hz
  | @tup a ys ds h1 h2 =>
    cases (show u = Value.ref a from ru)
    obtain ⟨as, rd⟩ := Dp.reads I _ _ _ (.tup h1 h2) rfl
    exact repr_of_reads' rd sh.s (PyData.noDict_hsm sh.h) hgd (by have := sh.k; have := hr.un; omega) (fun _ _ e => e) (fun h' t tk hk => ⟨.str _, H, I.kept hk, ⟨_, rfl⟩, q⟩) hz
end
/-! ### the end, where no repr runs around the law's call -/
def lawHp (a : Addr) (o : Obj) (xs : List V) : Hp := fun b => if b = a then some (.frz o (.lst xs)) else none
theorem walk_ofG {l : PySem.W.OpenLaw} {n k : Nat} {q : Program} {loose : List Str} {XP : (Str → Option Value) → Heap → Prop} {YP : World → Heap → Prop} {d : DefRec} {K : Params → PySem.W.Frag} {CX : World → CXT} {sp : World → Sp} {x : Str}
    (hn : l.most = some n) (hn2 : n ≤ sizeLine) (hdf : d.params.defaults = []) (hr : Room k callerA)
    (hY : ∀ (w : World) (h : Heap), YP w h → (K w.params).In h)
    (F : ∀ (w : World) (mg : Str → Option Value) (fa : Addr) (h : Heap), (K w.params).In h → h.Ns mainGlobals mg → mg d.name = some (.ref fa) →
      ∃ fd : FuncData, (∀ (s : Shared) (u : Value), BindsTo s fd ⟨[u], []⟩ [(x, u)]) ∧
        ∀ base : Heap, (K w.params).In base → base.Ns mainGlobals mg → FnG l.prog w (K w.params) mg base (CX w) k fa fd [x] (sp w))
    (hsp : ∀ (w : World) (H : Hp) (a : Addr) (ns : List Int), ns.length ≤ n → Only H → SqL (K w.params) H a (ns.map V.int) → sp w [.ref a] H (fun v _ => v = .bl true) fun _ _ _ => False)
    (hCX : ∀ (w : World) (H : Hp) (s : Shared) (e : Value) (s' : Shared), CX w [] H s (fun _ _ _ => False) e s' → False) :
    PySem.W.WalkO q loose XP YP l.row.toRowW d [] (fun f vs => PySem.call f vs) := by
  refine Att.attach_call hn hdf fun w s₀ s₁ mg mb fa o pm cd doc a vs ns G Y ho hd hcd hmg hobj hints hlen hg => ?_
  have KX := hY w _ Y
  obtain ⟨fd, hb, hF⟩ := F w mg fa _ KX G.T.g hmg
  have rv : Vals (ns.map V.int) vs := vals_ints hints
  have lenV := hints.length
  have hl := Nat.le_trans hlen hn2
  have core : ∀ H : Hp, Only H → SqL (K w.params) H a (ns.map V.int) → HOk l.prog w H s₁.heap → (∀ b, H b ≠ none → b = a) → (H a ≠ none → (K w.params).lookup a = none) →
      codeAny (model l.prog w) callerA (.call (.ref fa) ⟨[.ref a], []⟩) (fun r s' => r = .ok (.ret (.bool true)) ∧ OldK s₁.heap s'.heap ∧ s'.os = s₁.os ∧ AllBare s'.gens) s₁ := by
    intro H hO hS hok hA hK
    have free : ∀ {b : Addr} {o : Obj}, s₁.heap.get? b = some o → (b = a → False) → H b = none := fun {b o} e n => by
      cases z : H b with
      | none => rfl
      | some u => exact (n (hA b (by rw [z]; simp))).elim
    have nsK : ∀ {b : Addr} {m : Str → Option Value}, s₁.heap.Ns b m → (hidT s₁.heap H).Ns b m := fun {b m} ⟨o, es, ep, e, d, r⟩ => ⟨o, es, ep, hidT_get e (free e fun z => by
      subst z
      rw [hobj] at e; cases e
      exact nomatch (show Data.seq vs.toArray _ = Data.dict es ep from d)), d, r⟩
    have hKb : (K w.params).In (hidT s₁.heap H) := fun b o e => hidT_get (KX b o e) (by
      cases z : H b with
      | none => rfl
      | some u =>
        have e' : b = a := hA b (by rw [z]; simp)
        subst e'
        rw [hK (by rw [z]; simp)] at e; cases e)
    have hM : Mod (K w.params) mg (hidT s₁.heap H) := ⟨hKb, nsK G.T.g, ⟨mb, nsK G.T.b, G.T.builtins⟩, let ⟨mc, h1, h2⟩ := G.T.nolimit; ⟨mc, nsK h1, h2⟩⟩
    have e0 : Env0 l.prog w (K w.params) mg (hidT s₁.heap H) callerA [] s₁ H := ⟨rfl, hM, fun b o e => of_hidT e, Nat.le_of_eq (hidT_size _ _), trivial, fun b hb => absurd (show b ∈ ([] : List Addr) from hb) (by simp), hok, .of_eq hg⟩
    refine codeAny_mono ((hF _ hKb (nsK G.T.g)).run callerA [] s₁ H ⟨[.ref a], []⟩ [.ref a] [.ref a] _ _ rfl hr e0 (hb s₁ (.ref a)) (.cons rfl .nil) (hsp w H a ns hlen hO hS)) fun r s' h => ?_
    cases r with
    | error e => exact (hCX w H s₁ e s' h).elim
    | ok fl =>
      cases fl with
      | next => exact False.elim h
      | brk => exact False.elim h
      | cont => exact False.elim h
      | ret u =>
        obtain ⟨v, H', os, bare, un, hok', r', q⟩ := h
        cases (show v = .bl true from q)
        cases (show u = Value.bool true from r')
        refine ⟨rfl, OldK.of_keep fun b o e => ?_, os, bare⟩
        cases z : H b with
        | none => exact un.keep b o e z (by intro y; exact absurd (show b ∈ ([] : List Addr) from y) (by simp)) (by simp)
        | some u =>
          rcases hO b with y | ⟨ob, xs, y⟩
          · rw [z] at y; cases y
          · obtain ⟨e1, _⟩ := hok b _ y
            obtain ⟨e2, _⟩ := hok' b _ (un.frzs b ob _ y)
            rw [e] at e1; cases e1
            exact e2
  cases hk : (K w.params).lookup a with
  | some o =>
    have e := KX a o hk
    rw [hobj] at e
    cases e
    exact core (fun _ => none) (fun _ => .inl rfl) (.inr ⟨_, vs.toArray, _, hk, rfl, rfl, rfl, by rw [List.size_toArray, lenV]; exact hl, by simpa using rv⟩) (fun b u z => nomatch (show (none : Option HO) = some u from z)) (fun b z => absurd rfl z) fun z => absurd rfl z
  | none =>
    have at_a : lawHp a { cls := .type "list", data := .seq vs.toArray } (ns.map V.int) a = some (.frz { cls := .type "list", data := .seq vs.toArray } (.lst (ns.map V.int))) := if_pos rfl
    have off : ∀ b, b ≠ a → lawHp a { cls := .type "list", data := .seq vs.toArray } (ns.map V.int) b = none := fun b h => if_neg h
    refine core (lawHp a { cls := .type "list", data := .seq vs.toArray } (ns.map V.int)) (fun b => ?_) (.inl (.inr ⟨_, at_a⟩)) (fun b u z => ?_) (fun b z => ?_) fun _ => hk
    · by_cases hb : b = a
      · subst hb; exact .inr ⟨_, _, at_a⟩
      · exact .inl (off b hb)
    · by_cases hb : b = a
      · subst hb
        rw [at_a] at z; cases z
        exact ⟨hobj, by rw [List.length_map]; exact hl, vs, _, rv, hobj⟩
      · rw [off b hb] at z; cases z
    · by_cases hb : b = a
      · exact hb
      · exact absurd (off b hb) z
end Ol

namespace Ol
open PySem PySem.W PySem.Calls PyProof.Rows L2
/-! ### keywords -/
def perm {α : Type} (is : List Nat) (us ws : List α) : List α := us ++ is.filterMap fun i => ws[i]?
theorem vals_pick {zs : List V} {ws : List Value} (r : Vals zs ws) : ∀ is : List Nat, Vals (is.filterMap fun i => zs[i]?) (is.filterMap fun i => ws[i]?)
  | [] => .nil
  | i :: is => by
    rw [List.filterMap_cons, List.filterMap_cons]
    cases h : zs[i]? with
    | none => rw [r.none_of h]; exact vals_pick r is
    | some v =>
      obtain ⟨u, e, q⟩ := r.get h
      rw [e]
      exact .cons q (vals_pick r is)
theorem Fun.kbn {K : Frag} {x qual : Str} {st : Stmt} {f : Addr} {fd : FuncData} {ps ks : List Str} (F : Fun K x qual st f fd) (n : Nat) (is : List Nat)
    (h : ∀ (kV doc pm : Value) (an : Option Addr) (cdv ct : Value) (us ws : List Value), us.length = n → ws.length = ks.length → bindArgs (PySem.W.fnOf x qual (defArgs st) (defBody st) (defScope st) .none kV doc pm an cdv ct) ⟨us, ks.zip ws⟩ = pure (ps.zip (perm is us ws))) :
    KBn K fd ps n ks (perm is) (perm is) := by
  obtain ⟨oc, od, kV, doc, pm, an, cdv, ct, osl, rfl, lk, hcd⟩ := F.ex
  exact ⟨fun s us ws _ h1 h2 => .of_eq (h kV doc pm an cdv ct us ws h1 h2), fun r1 r2 => r1.append (vals_pick r2 is)⟩
/-- o.m(k = v, ..) -/
def tMethK (C : Addr) (m : Str) (n : Nat) (sp : Sp) (gV : List V → List V → List V) (E : XK) (ta : TE) (tk : TA) : TE := fun σ H Q => ta σ H fun x H1 => ∃ a dx fs, x = .ref a ∧ H1 a = some (.ins C dx fs) ∧ fs.lookup m = none ∧ tk σ H1 fun zs H2 => zs.length = n ∧ sp (gV [x] zs) H2 Q E
section
variable {X : Cx} {CX : CXT} {k n : Nat} {f C : Addr} {fd : FuncData} {ps ks : List Str} {sp : Sp} {E : XK} {x m : Str} {p pos apos : Pos} {o e : Expr} {es : List Expr} {kws : List Keyword} {ta : TE} {t tk : TA} {g : List Value → List Value → List Value} {gV : List V → List V → List V}
  {pins : List (Addr × Obj)} {σ : L2.St} {H : Hp} {s : Shared}
theorem run_kw {Q : VK} {us ws : List Value} {vs zs : List V} (F : FnOk X.prog X.w X.K X.mg X.base CX k f fd ps sp) (hr : Room k X.A) (hb : KBn X.K fd ps n ks g gV) (hx : Passes CX X E)
    (I : Inv X pins σ H s) (r : Vals vs us) (rz : Vals zs ws) (l1 : vs.length = n) (l2 : zs.length = ks.length) (h : sp (gV vs zs) H Q E) : wpAny (model X.prog X.w) X.A (call (.ref f) us (ks.zip ws)) (EP X pins σ Q) X.xe s := by
  refine wpAny_call (codeAny_mono (F.run X.A X.stack s H ⟨us, ks.zip ws⟩ (g us ws) (gV vs zs) Q E hr I.env0 (hb.to s us ws I.kIn (r.length.symm.trans l1) (rz.length.symm.trans l2)) (hb.rel r rz) h) fun r s' hq => ?_)
  cases r with
  | error e => exact hx pins σ H s e s' I hq
  | ok fl =>
    cases fl with
    | ret u => exact I.after hq
    | next => exact False.elim hq
    | brk => exact False.elim hq
    | cont => exact False.elim hq
theorem pe_methK0 {pl : Sem Bool} (he : PE X o ta) (c : Cls X.K C) (hm : Meth X.K C m f) (F : FnOk X.prog X.w X.K X.mg X.base CX k f fd ps sp) (hr : Room k X.A) (hb : KBn X.K fd ps 1 ks g gV) (hx : Passes CX X E) (hkw : PK X kws tk)
    (hall : (backToKw pos (keywordEach kws X.env)).all (·.1.isSome) = true := by rfl) (hks : (backToKw pos (keywordEach kws X.env)).filterMap (·.1) = ks := by rfl)
    (hpl : ((backTo pos (starEach [] X.env)).any (·.1) || (backToKw pos (keywordEach kws X.env)).any (·.1.isNone)) = false := by rfl)
    (ht : eval (.Call (.Attribute o m apos) [] kws pos) X.env = (do
      let ov ← eval o X.env
      standAt apos.atName
      let (f, first) ← holding [ov] (getMethod ov m pl)
      callWith pos f first (backTo pos (starEach [] X.env)) (backToKw pos (keywordEach kws X.env))) := by rfl) :
    PE X (.Call (.Attribute o m apos) [] kws pos) (tMethK C m ks.length sp gV E ta tk) := by
  refine ⟨fun pins s σ H Q I h => ?_⟩
  refine PySem.W.methodCall_KW (pl := pl) (thn (he.run pins s σ H _ I h) fun u s1 ⟨x, H1, I1, rx, a, dx, fs, ex, ea, l, q⟩ => ?_) ht
  subst ex
  cases (show u = Value.ref a from rx)
  refine getmeth_ok I1 ea c hm l ?_
  refine PySem.W.callWith_KW0 (first := [.ref a]) (h₀ := X.base) I.ok.mod.kin hm.kp hall ?_ hpl
  refine thn (hkw.run pos pins s1 σ H1 _ I1 q) fun ws s2 ⟨zs, H2, I2, rz, l2, q2⟩ => ⟨I2.kIn, ?_⟩
  rw [hks]
  exact run_kw (us := [.ref a]) (vs := [.ref a]) F hr hb hx I2 (.cons rfl .nil) rz rfl l2 q2
/-! ### a callee at another depth -/
theorem run_at {A : Around} {Er : Value → Shared → Prop} {Q : VK} {us : List Value} {vs : List V} (F : FnOk X.prog X.w X.K X.mg X.base CX k f fd ps sp) (hr : Room k A) (e0 : Env0 X.prog X.w X.K X.mg X.base A X.stack s H) (hb : Binds X.K fd ps [])
    (hx : ∀ e s', CX X.stack H s E e s' → Er e s') (I : Inv X pins σ H s) (r : Vals vs us) (h : sp vs H Q E) : wpAny (model X.prog X.w) A (call (.ref f) us) (EP X pins σ Q) Er s := by
  have hl : us.length = ps.length := by rw [← r.length]; exact F.len _ _ _ _ h
  have hb' := hb s us I.kIn (by rw [List.append_nil]; exact hl)
  rw [List.append_nil] at hb'
  refine wpAny_call (codeAny_mono (F.run A X.stack s H ⟨us, []⟩ us vs Q E hr e0 hb' r h) fun r s' hq => ?_)
  cases r with
  | error e => exact hx e s' hq
  | ok fl =>
    cases fl with
    | ret u => exact I.after hq
    | next => exact False.elim hq
    | brk => exact False.elim hq
    | cont => exact False.elim hq
/-- str(o), o an instance with its own __str__ -/
def rStrO (C : Addr) (sp : Sp) (E : XK) : List V → Hp → VK → Prop := fun xs H Q => ∃ a dx fs, xs = [.ref a] ∧ H a = some (.ins C dx fs) ∧ sp [.ref a] H (fun v H' => ∃ z, v = .str z ∧ Q (.str z) H') E
theorem call_strO (R : Meth X.K C "__str__" f) (F : FnOk X.prog X.w X.K X.mg X.base CX k f fd ps sp) (hr : Room (k + 2) X.A) (hb : Binds X.K fd ps []) (hx : Passes CX X E) : CallR X (.type "str") (rStrO C sp E) := by
  intro pins s σ H xs us Q I r h
  obtain ⟨a, dx, fs, rfl, ea, q⟩ := h
  obtain ⟨u, rfl, ru⟩ := vals1 r
  cases (show u = Value.ref a from ru)
  obtain ⟨mA, O, _⟩ := ins_get I.hok ea
  obtain ⟨od, J, _⟩ := O.look
  refine kso_call hr.in1.in1.units0 I.kIn J R.at_ R.fn ?_
  refine wpAny_mono (run_at (us := [.ref a]) (vs := [.ref a]) F hr.in1.in1 I.env0.in1.in1 hb (fun e s' => hx pins σ H s e s' I) I (.cons rfl .nil) q) (fun v s' hv => ?_) fun _ _ z => z
  obtain ⟨v', H', I', r', z, rfl, q'⟩ := hv
  obtain ⟨t, rfl⟩ := r'
  exact ⟨.str z, H', I', ⟨t, rfl⟩, q'⟩
/-! ### == where the right one has the method -/
/-- the __eq__ of a built-in type lets an instance be -/
def LetsEq (T id : String) : Prop := ∀ (prog : Program) (w : World) (A : Around) (E : Value → Shared → Prop) (s : Shared) (y : Value) (x C dx : Addr) (Q : Value → Shared → Prop),
  s.TypeIs y T → s.heap.get? x = some (instObj C dx) → Q .notImplemented s → wpAny (model prog w) A (call (.builtin id) [y, .ref x]) Q E s
end
end Ol

namespace Ol
open PySem PySem.W PySem.Calls PyProof.Rows L2
section
variable {prog : Program} {w : World} {A : Around} {E : Value → Shared → Prop} {s : Shared} {x C dx : Addr} {Q : Value → Shared → Prop}
theorem dec_eq_int {i : Int} {t : Tok} (hx : s.heap.get? x = some (instObj C dx)) (h : Q .notImplemented s) : wpAny (model prog w) A (call (.builtin "int.__eq__") [.int i t, .ref x]) Q E s := by
  refine wpAny_call_entry F.slot_int_eq (typeIs_int s i t) F.entry_int_eq ?_ (F.args_int_eq_2 _ _)
  obtain ⟨hp, g, d, tk, os⟩ := s
  unfold Builtin.«int.__eq__»
  wp_walk
  exact ⟨_, rfl, h⟩
theorem dec_eq_str {i : Str} {t : Tok} (hx : s.heap.get? x = some (instObj C dx)) (h : Q .notImplemented s) : wpAny (model prog w) A (call (.builtin "str.__eq__") [.str i t, .ref x]) Q E s := by
  refine wpAny_call_entry F.slot_str_eq (typeIs_str s i t) F.entry_str_eq ?_ (F.args_str_eq_2 _ _)
  obtain ⟨hp, g, d, tk, os⟩ := s
  unfold Builtin.«str.__eq__»
  wp_walk
  exact ⟨_, rfl, h⟩
theorem dec_eq_none (hx : s.heap.get? x = some (instObj C dx)) (h : Q .notImplemented s) : wpAny (model prog w) A (call (.builtin "NoneType.__eq__") [.none, .ref x]) Q E s := by
  refine wpAny_call_entry F.slot_NoneType_eq (show s.TypeIs .none "NoneType" from rfl) F.entry_NoneType_eq ?_ (F.args_NoneType_eq_2 _ _)
  obtain ⟨hp, g, d, tk, os⟩ := s
  unfold Builtin.«NoneType.__eq__»
  wp_walk
  exact ⟨_, rfl, h⟩
theorem dec_eq_list {l : Addr} {o : Obj} {vs : Array Value} {n : Nat} (hl : s.heap.get? l = some o) (hc : o.cls = .type "list") (hd : o.data = .seq vs n) (hx : s.heap.get? x = some (instObj C dx)) (hsub : Looks (model prog w) s.heap (isSubtype (.ref C) (.type "list")) false) (h : Q .notImplemented s) : wpAny (model prog w) A (call (.builtin "list.__eq__") [.ref l, .ref x]) Q E s := by
  refine wpAny_call_entry F.slot_list_eq (show s.TypeIs (.ref l) "list" from ⟨o, hl, hc⟩) F.entry_list_eq ?_ (F.args_list_eq_2 _ _)
  obtain ⟨hp, g, d, tk, os⟩ := s
  obtain ⟨c, dd, da, sl⟩ := o
  cases hc
  cases hd
  unfold Builtin.«list.__eq__»
  wp_walk
  refine hsub.at ?_
  wp_walk
  exact ⟨_, rfl, h⟩
theorem dec_eq_tuple {l : Addr} {o : Obj} {vs : Array Value} {n : Nat} (hl : s.heap.get? l = some o) (hc : o.cls = .type "tuple") (hd : o.data = .seq vs n) (hx : s.heap.get? x = some (instObj C dx)) (hsub : Looks (model prog w) s.heap (isSubtype (.ref C) (.type "tuple")) false) (h : Q .notImplemented s) : wpAny (model prog w) A (call (.builtin "tuple.__eq__") [.ref l, .ref x]) Q E s := by
  refine wpAny_call_entry F.slot_tuple_eq (show s.TypeIs (.ref l) "tuple" from ⟨o, hl, hc⟩) F.entry_tuple_eq ?_ (F.args_tuple_eq_2 _ _)
  obtain ⟨hp, g, d, tk, os⟩ := s
  obtain ⟨c, dd, da, sl⟩ := o
  cases hc
  cases hd
  unfold Builtin.«tuple.__eq__»
  wp_walk
  refine hsub.at ?_
  wp_walk
  exact ⟨_, rfl, h⟩
/-- y == x, y of a built-in type that lets x be, x an instance with the method f -/
theorem eq_right {K : Frag} {f : Addr} {ox : Obj} {od : Option Obj} {y : Value} {T id : String} (hu : A.units < cLine) (X : K.In s.heap) (I : InstAt s.heap x ox C od) (hy : s.TypeIs y T) (hty : Looks (model prog w) s.heap (typeOf y) (.type T)) (ho : oneThing? .Eq y (.ref x) = none) (sl : Slot T (cmpInfo .Eq).2.1 id)
    (dec : ∀ Q' : Value → Shared → Prop, Q' .notImplemented s → wpAny (model prog w) A (call (.builtin id) [y, .ref x]) Q' E s) (hsub : subIn K (.ref C) (.type T) = some false) (at_ : findIn K (.ref C) "__eq__" = some (some (.ref f))) (hf : isFn K (.ref f) = true)
    (h : wpAny (model prog w) A (call (.ref f) [.ref x, y]) (W.CmpBack Q) E s) : wpAny (model prog w) A (richCompare .Eq y (.ref x)) Q E s := by
  have one : wpAny (model prog w) A (tryCompare (.ref x) "__eq__" y) (fun r s' => ∃ v, r = some v ∧ Q v s') E s := by
    unfold tryCompare
    refine wpAny_bind (ifBound_K X I at_ hf (wpAny_mono h (fun v s' hv => ?_) fun _ _ e => e))
    cases v <;> first | exact hv.elim | exact wpAny_pure ⟨_, rfl, hv⟩
  unfold richCompare
  simp only [ho]
  refine wpAny_holding (wpAny_bind (wpAny_cRoomFor hu ?_))
  refine wpAny_bind (hty.here (wpAny_bind (I.type.here ?_)))
  rw [if_pos (show (Value.type T != Value.ref C) = true by simp)]
  refine wpAny_bind ((looks_subIn X hsub).here ?_)
  simp only [Bool.false_eq_true, if_false]
  refine wpAny_bind (wpAny_tryCompare_declines hy sl (dec _ ⟨rfl, ?_⟩))
  simp only [Bool.not_false, if_true]
  refine wpAny_bind (wpAny_mono one (fun r s' z => ?_) fun _ _ e => e)
  obtain ⟨v, rfl, hq⟩ := z
  exact wpAny_pure hq
/-- what x == y and x in [..] ask of an instance beside a built-in value -/
inductive EqBy (K : Frag) (C : Addr) (H : Hp) : V → Prop where
  | int (i : Int) (h : subIn K (.ref C) (.type "int") = some false) : EqBy K C H (.int i)
  | str (z : Str) (h : subIn K (.ref C) (.type "str") = some false) : EqBy K C H (.str z)
  | non (h : subIn K (.ref C) (.type "NoneType") = some false) : EqBy K C H .non
  | lst {a : Addr} {xs : List V} (e : H a = some (.lst xs)) (h : subIn K (.ref C) (.type "list") = some false) : EqBy K C H (.ref a)
  | tup {a : Addr} {xs : List V} (e : H a = some (.tup xs)) (h : subIn K (.ref C) (.type "tuple") = some false) : EqBy K C H (.ref a)
theorem EqBy.same {K : Frag} {H H' : Hp} {v : V} (e : EqBy K C H v) (s : Same H H') : EqBy K C H' v := by
  cases e with
  | int i h => exact .int i h
  | str z h => exact .str z h
  | non h => exact .non h
  | lst e h => exact .lst (s _ _ e) h
  | tup e h => exact .tup (s _ _ e) h
end
section
variable {X : Cx} {CX : CXT} {k : Nat} {C f a dx : Addr} {fs : List (Str × V)} {fd : FuncData} {ps : List Str} {sp : Sp} {E : XK} {pins : List (Addr × Obj)} {σ : L2.St} {H : Hp} {s : Shared}
/-- y == o by the __eq__ of o -/
theorem rich_right {A : Around} {Er : Value → Shared → Prop} {y : V} {u : Value} {Q : VK} (at_ : findIn X.K (.ref C) "__eq__" = some (some (.ref f))) (hfn : isFn X.K (.ref f) = true) (Fn : FnOk X.prog X.w X.K X.mg X.base CX k f fd ps sp) (hr : Room k A) (e0 : Env0 X.prog X.w X.K X.mg X.base A X.stack s H)
    (hb : Binds X.K fd ps []) (hx : ∀ e s', CX X.stack H s E e s' → Er e s') (I : Inv X pins σ H s) (ea : H a = some (.ins C dx fs)) (ry : RelV y u) (ey : EqBy X.K C H y) (h : sp [.ref a, y] H Q E) :
    wpAny (model X.prog X.w) A (richCompare .Eq u (.ref a)) (EP X pins σ Q) Er s := by
  obtain ⟨mA, O, _⟩ := ins_get I.hok ea
  obtain ⟨od, J, _⟩ := O.look
  have run : wpAny (model X.prog X.w) A (call (.ref f) [.ref a, u]) (W.CmpBack (EP X pins σ Q)) Er s :=
    wpAny_mono (run_at (us := [.ref a, u]) (vs := [.ref a, y]) Fn hr e0 hb hx I (.cons rfl (.cons ry .nil)) h) (fun _ _ z => back_ep z) fun _ _ z => z
  cases ey with
  | int i hs =>
    obtain ⟨t, rfl⟩ := ry
    exact eq_right hr.units0 I.kIn J (typeIs_int s i t) (.of_pure rfl) rfl F.slot_int_eq (fun _ q => dec_eq_int O.obj q) hs at_ hfn run
  | str z hs =>
    obtain ⟨t, rfl⟩ := ry
    exact eq_right hr.units0 I.kIn J (typeIs_str s z t) (.of_pure rfl) rfl F.slot_str_eq (fun _ q => dec_eq_str O.obj q) hs at_ hfn run
  | non hs =>
    cases (show u = Value.none from ry)
    exact eq_right hr.units0 I.kIn J (show s.TypeIs .none "NoneType" from rfl) (.of_pure rfl) rfl F.slot_NoneType_eq (fun _ q => dec_eq_none O.obj q) hs at_ hfn run
  | @lst l xs el hs =>
    cases (show u = Value.ref l from ry)
    obtain ⟨_, _, n, _, h1⟩ := (show ObjOk X.prog X.w H s.heap l (.lst xs) from I.hok l _ el)
    exact eq_right hr.units0 I.kIn J (show s.TypeIs (.ref l) "list" from ⟨_, h1, rfl⟩) (looks_ty (x := .ref l) I rfl (.base (.lst el))) rfl F.slot_list_eq (fun _ q => dec_eq_list h1 rfl rfl O.obj (looks_subIn I.kIn hs) q) hs at_ hfn run
  | @tup l xs el hs =>
    cases (show u = Value.ref l from ry)
    obtain ⟨_, _, _, o, h1, h2, n, h3⟩ := (show ObjOk X.prog X.w H s.heap l (.tup xs) from I.hok l _ el)
    exact eq_right hr.units0 I.kIn J (show s.TypeIs (.ref l) "tuple" from ⟨_, h1, h2⟩) (looks_ty (x := .ref l) I rfl (.base (.tup el))) rfl F.slot_tuple_eq (fun _ q => dec_eq_tuple h1 h2 h3 O.obj (looks_subIn I.kIn hs) q) hs at_ hfn run
end
end Ol

namespace Ol
open PySem PySem.W PySem.Calls PyProof.Rows L2
open AutoSeq1 (wpAny_loadPart')
open MeetsSeq MeetsSeq2 MeetsSeq3 SeqRoads2
section
variable {prog : Program} {w : World}
/-- x in a list none of whose items is equal to x, where == runs own code -/
theorem contains_loopJ (l : Addr) (items : Array Value) (n : Nat) (dd : Option Addr) (sl : Array (Option Value)) (x : Value) (A : Around) (R : Result → Shared → Prop) (J : Shared → Prop)
    (hl : ∀ s, J s → s.heap.get? l = some { cls := .type "list", dict := dd, data := .seq items n, slots := sl })
    (he : ∀ y, y ∈ items → ∀ s, J s → ∀ Q : Bool → Shared → Prop, (∀ s', J s' → Q false s') → wpAny (model prog w) A.in1 (eqBool y x) Q (fun e s' => R (.error e) s') s)
    (hR : ∀ s, J s → R (.ok (.ret (.bool false))) s) (k : Nat) :
    ∀ i : Nat, items.size - i = k → ∀ s, J s → wpAny (model prog w) A.in1 (Builtin.«list.__contains__.loop» ⟨[.ref l, x, rawInt i], []⟩) (fun fin s' => match fin with | .done f => R (.ok f) s' | .again c' => c'.quiet = true ∧ codeAny (model prog w) A c' R s') (fun e s' => R (.error e) s') s := by
  induction k with
  | zero =>
    intro i hk s h
    have hl' := hl s h
    have hr := hR s h
    obtain ⟨hp, g, d, tk, os⟩ := s
    wp_walk using wpAny_loadPart' hl'
    have hi : items[((i : Nat) : Int).toNat]? = none := by simp; omega
    rw [hi]
    wp_walk
    exact hr
  | succ k ih =>
    intro i hk s h
    have hl' := hl s h
    have he' : ∀ y, y ∈ items → ∀ Q : Bool → Shared → Prop, (∀ s', J s' → Q false s') → wpAny (model prog w) A.in1 (eqBool y x) Q (fun e s' => R (.error e) s') s := fun y hy => he y hy s h
    obtain ⟨hp, g, d, tk, os⟩ := s
    wp_walk using wpAny_loadPart' hl'
    have hlt : i < items.size := by omega
    have hi : items[((i : Nat) : Int).toNat]? = some items[i] := by simp [hlt]
    rw [hi]
    refine wpAny_bind (he' _ (Array.getElem_mem hlt) _ fun s' h' => ?_)
    obtain ⟨hp, g, d, tk, os⟩ := s'
    have hc : ((i : Int) + 1) = ((i + 1 : Nat) : Int) := by push_cast; rfl
    wp_walk
    rw [hc]
    exact ⟨plainId_quiet plain_contains_loop _, codeAny_builtin entry_contains_loop (by
      rw [Around.under_plainId plain_contains_loop _]
      exact ih (i + 1) (by omega) _ h')⟩
theorem in_listJ {l : Addr} {items : Array Value} {n : Nat} {dd : Option Addr} {sl : Array (Option Value)} {x : Value} {A : Around} {E : Value → Shared → Prop} {Q : Value → Shared → Prop} {s : Shared} (J : Shared → Prop) (h : J s)
    (hl : ∀ s, J s → s.heap.get? l = some { cls := .type "list", dict := dd, data := .seq items n, slots := sl })
    (he : ∀ y, y ∈ items → ∀ s, J s → ∀ Q : Bool → Shared → Prop, (∀ s', J s' → Q false s') → wpAny (model prog w) A.in1 (eqBool y x) Q E s)
    (hq : ∀ s, J s → Q (.bool false) s) : wpAny (model prog w) A (compareOp .In x (.ref l)) Q E s := by
  show wpAny _ _ (do return .bool (← contains (.ref l) x)) Q E s
  refine wpAny_bind (wpAny_contains_slot ⟨_, hl s h, rfl⟩ F.slot_list_contains ?_)
  refine wpAny_call (codeAny_call_builtin F.slot_list_contains.plain F.entry_list_contains (F.slot_list_contains.check _ _ _ _ _ _ _ _ ⟨_, hl s h, rfl⟩ (F.args_list_contains_2 _ _) ?_))
  have hl' := hl s h
  have go := contains_loopJ (prog := prog) (w := w) l items n dd sl x A (wants (fun r s' => wpAny (model prog w) A (truthy r) (fun a s' => wpAny (model prog w) A (pure (Value.bool a)) Q E s') E s') E) J hl he (fun s h => wpAny_truthy_bool (wpAny_pure (hq s h))) _ 0 rfl s h
  obtain ⟨hp, g, d, tk, os⟩ := s
  wp_walk using wpAny_loadPart' hl'
  exact ⟨plainId_quiet plain_contains_loop _, codeAny_builtin entry_contains_loop (by
    rw [Around.under_plainId plain_contains_loop _]
    exact go)⟩
end
section
variable {X : Cx} {CX : CXT} {k : Nat} {C f a dx : Addr} {fs : List (Str × V)} {fd : FuncData} {ps : List Str} {sp : Sp} {E : XK} {pins : List (Addr × Obj)} {σ : L2.St} {H : Hp} {s : Shared}
theorem vals_mem {xs : List V} {us : List Value} (r : Vals xs us) : ∀ y ∈ us, ∃ z ∈ xs, RelV z y := by
  induction r with
  | nil => intro y hy; cases hy
  | cons r t ih =>
    intro y hy
    rcases List.mem_cons.mp hy with rfl | hy
    · exact ⟨_, List.mem_cons_self, r⟩
    · obtain ⟨z, h1, h2⟩ := ih y hy
      exact ⟨z, List.mem_cons_of_mem _ h1, h2⟩
/-- x in a list of built-in values, x an instance; its __eq__ says False of each and leaves the heap -/
def rInNo (K : Frag) (C : Addr) (sp : Sp) (E : XK) : R2 := fun x y H Q => ∃ a l xs, x = .ref a ∧ y = .ref l ∧ H l = some (.lst xs) ∧
  (∀ od, ∀ z ∈ xs, EqBy K C (upd H l (.frz od (.lst xs))) z ∧ z ≠ .ref a ∧ (∃ dx fs, upd H l (.frz od (.lst xs)) a = some (.ins C dx fs)) ∧ ∀ Q' : VK, Q' (.bl false) (upd H l (.frz od (.lst xs))) → sp [.ref a, z] (upd H l (.frz od (.lst xs))) Q' E) ∧ Q (.bl false) H
theorem op_inNo (at_ : findIn X.K (.ref C) "__eq__" = some (some (.ref f))) (hfn : isFn X.K (.ref f) = true) (Fn : FnOk X.prog X.w X.K X.mg X.base CX k f fd ps sp) (hr : Room (k + 1) X.A)
    (hb : Binds X.K fd ps []) (hx : Passes CX X E) : OpR X (compareOp .In) (rInNo X.K C sp E) := by
  intro pins s σ H x y v u Q I rx ry h
  obtain ⟨a, l, xs, rfl, rfl, el, hz, q⟩ := h
  cases (show v = Value.ref a from rx)
  cases (show u = Value.ref l from ry)
  have nf := I.nofrz el (by trivial)
  obtain ⟨od, I1⟩ := I.lock el (by trivial)
  have hz := hz od
  have e1 : upd H l (.frz od (.lst xs)) l = some (.frz od (.lst xs)) := upd_same
  have back : ∀ s', Inv X pins σ (upd H l (.frz od (.lst xs))) s' → Inv X pins σ H s' := fun s' I' => by
    have z := I'.unlock e1 nf
    have e : upd (upd H l (.frz od (.lst xs))) l (.lst xs) = H := by
      funext b
      by_cases hb : b = l
      · subst hb; rw [upd_same, el]
      · rw [upd_ne hb, upd_ne hb]
    rwa [e] at z
  obtain ⟨ho, _, us, n, r, h1⟩ := (show ObjOk X.prog X.w _ s.heap l (.frz od (.lst xs)) from I1.hok l _ e1)
  have hod := Option.some.inj (ho.symm.trans h1)
  refine in_listJ (items := us.toArray) (n := n) (dd := none) (sl := #[]) (fun s' => Inv X pins σ (upd H l (.frz od (.lst xs))) s') I1 (fun s' J => ?_) (fun y hy s' J Q' hq => ?_) fun s' J => ⟨.bl false, H, back s' J, rfl, q⟩
  · rw [← hod]
    exact (show ObjOk X.prog X.w _ s'.heap l (.frz od (.lst xs)) from J.hok l _ e1).1
  · obtain ⟨z, hz1, ry⟩ := vals_mem r y (by simpa using hy)
    obtain ⟨by1, ne, ⟨dx, fs, ea⟩, hsp⟩ := hz z hz1
    have hne : (y == Value.ref a) = false := Bool.eq_false_iff.mpr fun e => by
      cases beq_iff_eq.mp e
      cases z with
      | ref b => cases (show Value.ref a = Value.ref b from ry); exact ne rfl
      | _ => first | (obtain ⟨t, e⟩ := ry; cases e) | cases ry
    unfold eqBool
    refine wpAny_holding ?_
    rw [hne]
    simp only [Bool.false_eq_true, if_false]
    have go := rich_right (Er := X.xe) at_ hfn Fn hr.in1 J.env0.in1 hb (fun e s'' => hx pins σ _ s' e s'' J) J ea ry by1 (Q := fun v H' => v = .bl false ∧ H' = upd H l (.frz od (.lst xs))) (hsp _ ⟨rfl, rfl⟩)
    have fin : wpAny (model X.prog X.w) X.A.in1 (richCompare .Eq y (.ref a) >>= truthOfDropped) Q' X.xe s' := by
      refine wpAny_bind (wpAny_mono go (fun v s'' hv => ?_) fun _ _ z => z)
      obtain ⟨v', H', I', r', rfl, rfl⟩ := hv
      cases (show v = Value.bool false from r')
      exact wpAny_truthy_bool (hq _ I')
    cases y <;> exact fin
end
end Ol

namespace Ol
open PySem PySem.Spec PyProof.Rows L2
def spDayEq2 (K : PySem.W.Frag) (C : Addr) : Sp := fun vs H Q _ => ∃ (a : Addr) (y : V) (L : Int), vs = [.ref a, y] ∧ DayAt C H a L ∧ ((∃ (b : Addr) (M : Int), y = .ref b ∧ DayAt C H b M ∧ Q (.bl (decide (L = M))) H) ∨ (∃ t, TyX K H y t ∧ PySem.W.kitOne K t (.ref C) = some false ∧ Q (.bl false) H))
def spDayIn (K : PySem.W.Frag) (C : Addr) : Sp := fun vs H Q _ => ∃ (a : Addr) (x : V) (L : Int), vs = [.ref a, x] ∧ DayAt C H a L ∧ ((∃ i, x = .int i ∧ Q (.bl (decide (0 ≤ i ∧ i ≤ L - 1))) H) ∨ (NoInt K H x ∧ Q (.bl false) H))
def spDayStr (C : Addr) : Sp := fun vs H Q _ => ∃ (a : Addr) (L : Int), vs = [.ref a] ∧ DayAt C H a L ∧ Q (.str (toString L)) H
section
variable {K : PySem.W.Frag} {C a b : Addr} {H : Hp} {Q : VK} {E : XK} {L M m n k : Int} {R : Prop} {x : V}
theorem r_deq2 (I : IsC K C) (d : DayAt C H a L) (e : DayAt C H b M) (q : Q (.bl (decide (L = M))) H) : rCmpO K C (spDayEq2 K C) E (.ref a) (.ref b) H Q := by
  obtain ⟨_, dx, h⟩ := id d
  obtain ⟨_, dy, h2⟩ := id e
  exact ⟨a, dx, _, _, rfl, h, I.ty h2, notFirst_self, a, _, L, rfl, d, .inl ⟨b, M, rfl, e, q⟩⟩
theorem r_dne2 (I : IsC K C) (d : DayAt C H a L) (e : DayAt C H b M) (q : Q (.bl (!decide (L = M))) H) : rNeO K C (spDayEq2 K C) E (.ref a) (.ref b) H Q := by
  obtain ⟨_, dx, h⟩ := id d
  obtain ⟨_, dy, h2⟩ := id e
  exact ⟨a, dx, _, _, rfl, h, I.ty h2, notFirst_self, a, _, L, rfl, d, .inl ⟨b, M, rfl, e, _, rfl, q⟩⟩
theorem r_din {g : Bool → Bool} {i : Int} (d : DayAt C H a L) (q : Q (.bl (g (decide (0 ≤ i ∧ i ≤ L - 1)))) H) : rInO C (spDayIn K C) E g (.int i) (.ref a) H Q := by
  obtain ⟨_, dx, h⟩ := id d
  exact ⟨a, dx, _, rfl, h, a, _, L, rfl, d, .inl ⟨i, rfl, _, rfl, q⟩⟩
theorem r_dinN {g : Bool → Bool} (d : DayAt C H a L) (n : NoInt K H x) (q : Q (.bl (g false)) H) : rInO C (spDayIn K C) E g x (.ref a) H Q := by
  obtain ⟨_, dx, h⟩ := id d
  exact ⟨a, dx, _, rfl, h, a, _, L, rfl, d, .inr ⟨n, _, rfl, q⟩⟩
theorem r_dstr (d : DayAt C H a L) (q : Q (.str (toString L)) H) : rStrO C (spDayStr C) E [.ref a] H Q := by
  obtain ⟨_, dx, h⟩ := id d
  exact ⟨a, dx, _, rfl, h, a, L, rfl, d, _, rfl, q⟩
theorem r_cat {l b : Addr} {xs zs : List V} (h1 : H l = some (.lst xs)) (h2 : H b = some (.lst zs)) (hz : Nat.ble (xs.length + zs.length) 1000 = true) (q : ∀ p, H p = none → Q (.ref p) (upd H p (.lst (xs ++ zs)))) : rCat (.ref l) (.ref b) H Q :=
  ⟨l, b, xs, zs, rfl, rfl, h1, h2, Nat.le_trans (Nat.le_of_ble_eq_true hz) (by decide), q⟩
theorem Fun.okN {P : Program} {w : World} {mg : Str → Option Value} {base : Heap} {x qual : Str} {st : Stmt} {f : Addr} {fd : FuncData} {N ps : List Str} {k : Nat} {sp : Sp} (F : Fun K x qual st f fd) (S : FnScope N ps (defScope st)) (len : ∀ vs H Q E, sp vs H Q E → vs.length = ps.length)
    (hbody : ∀ (cdv : Value) (A : Around) (outer : List Env) (s : Shared) (H : Hp) (vs : List V) (Q : VK) (E : XK), (A.deeper (envOfC qual (defScope st) s.heap.objs.size f cdv)).guards = some [] → Room k (A.deeper (envOfC qual (defScope st) s.heap.objs.size f cdv)) → sp vs H Q E →
      ∃ t, PSs (cxOf CX0 P w K mg base N qual (defScope st) f cdv A outer s H E).nox (defBody st) t ∧ t { nx := fun _ H' => Q .non H', rt := Q } (L2.start N vs) H) : FnG P w K mg base CX0 (k + 1) f fd ps sp :=
  Fun.okG F S len fun cdv A outer s H vs Q E hg hr hsp => let ⟨t, h, q⟩ := hbody cdv A outer s H vs Q E hg hr hsp; ⟨t, h.nox, q⟩
/-! ### values that are no ints -/
theorem NoInt.non : NoInt K H .non := ⟨_, _, .base .non, kit_ty (r := false) (by decide +kernel), fun z => by cases z⟩
theorem NoInt.bl (b : Bool) : NoInt K H (.bl b) := ⟨_, _, .base (.bl b), kit_bool_int, fun _ => kit_bool_bool⟩
theorem NoInt.str (z : Str) : NoInt K H (.str z) := ⟨_, _, .base (.str z), kit_ty (r := false) (by decide +kernel), fun z => by cases z⟩
theorem NoInt.lst {xs : List V} (h : H a = some (.lst xs)) : NoInt K H (.ref a) := ⟨_, _, .base (.lst h), kit_ty (r := false) (by decide +kernel), fun z => by cases z⟩
theorem NoInt.tup {xs : List V} (h : H a = some (.tup xs)) : NoInt K H (.ref a) := ⟨_, _, .base (.tup h), kit_ty (r := false) (by decide +kernel), fun z => by cases z⟩
theorem NoInt.dK {kvs : List (Key × V)} (h : H a = some (.dK kvs)) : NoInt K H (.ref a) := ⟨_, _, .base (.dK h), kit_ty (r := false) (by decide +kernel), fun z => by cases z⟩
theorem NoInt.own {dx : Addr} {fs : List (Str × V)} (I : IsC K C) (hk : PySem.W.kitOne K (.ref C) (.type "int") = some false) (h : H a = some (.ins C dx fs)) : NoInt K H (.ref a) := ⟨_, _, I.ty h, hk, fun z => by cases z⟩
end
end Ol

namespace Ol
open PySem PySem.Spec PyProof.Rows L2
section
variable {K : PySem.W.Frag} {σ : L2.St} {H : Hp} {Q : VK} {ta tb tc te : TE} {t u : TT} {ts us : TS} {tr tk : TA} {D : Ends} {v x y : V} {i j : Int} {C : Addr} {E : XK} {sp : Sp} {n m : Nat} {gV : List V → List V → List V}
theorem t_methK {f : Str} (h : ta σ H fun x H1 => ∃ a dx fs, x = .ref a ∧ H1 a = some (.ins C dx fs) ∧ fs.lookup f = none ∧ tk σ H1 fun zs H2 => zs.length = n ∧ sp (gV [x] zs) H2 Q E) : tMethK C f n sp gV E ta tk σ H Q := h
theorem t_makeK (h : tr σ H fun vs H1 => tk σ H1 fun zs H2 => vs.length = n ∧ zs.length = m ∧ ∀ x dx, H2 x = none → H2 dx = none → dx ≠ x → sp (gV (.ref x :: vs) zs) (upd (upd H2 dx (.own x)) x (.ins C dx [])) (fun v H3 => v = .non ∧ Q (.ref x) H3) E) : tMakeK C n m sp gV E tr tk σ H Q := h
theorem t_cval {f : Str} (h : ta σ H fun x H1 => ∃ C mc v u, x = .ref C ∧ ClX.CRead K C mc ∧ ClX.CVal K C mc f v u ∧ Q v H1) : ClX.tCVal K ta f σ H Q := h
theorem r_eqS1 {a b : Str} (h : a = b) (q : Q (.bl true) H) : rEq (.str a) (.str b) H Q := r_eqS (by rw [decide_eq_true h]; exact q)
theorem r_neS1 {a b : Str} (h : a = b) (q : Q (.bl false) H) : rNe (.str a) (.str b) H Q := r_neS (by rw [decide_eq_true h]; exact q)
theorem r_eqSame {d : PyData} (h1 : Dp K H x d) (h2 : Dp K H y d) (hs : SeqAt.shaped d = true) (q : Q (.bl true) H) : rEqD K x y H Q :=
  ⟨d, d, h1, h2, hs, hs, by rw [SeqAt.eqv_refl d (SeqAt.canLay_of_shaped hs)]; exact q⟩
theorem r_neSame {d : PyData} (h1 : Dp K H x d) (h2 : Dp K H y d) (hs : SeqAt.shaped d = true) (q : Q (.bl false) H) : rNeD K x y H Q :=
  ⟨d, d, h1, h2, hs, hs, by rw [SeqAt.eqv_refl d (SeqAt.canLay_of_shaped hs)]; exact q⟩
theorem eqv_ints : ∀ ns ms : List Int, PyData.eqvAll (ns.map PyData.int) (ms.map PyData.int) = decide (ns = ms)
  | [], [] => by simp [PyData.eqvAll]
  | [], _ :: _ => by simp [PyData.eqvAll]
  | _ :: _, [] => by simp [PyData.eqvAll]
  | a :: r, b :: s => by
    rw [List.map_cons, List.map_cons, PyData.eqvAll, PyData.eqv, eqv_ints r s]
    by_cases h1 : a = b <;> by_cases h2 : r = s <;> simp [h1, h2]
theorem r_eqInts {p q : Addr} {ns ms : List Int} (h1 : SqL K H p (ns.map V.int)) (h2 : SqL K H q (ms.map V.int)) (h : Q (.bl (decide (ns = ms))) H) : rEqD K (.ref p) (.ref q) H Q :=
  ⟨_, _, .lst h1 (dpAll_ints ns), .lst h2 (dpAll_ints ms), PySem.W.ke_shaped_ints ns, PySem.W.ke_shaped_ints ms, by rw [PyData.eqv, eqv_ints]; exact h⟩
theorem r_neInts {p q : Addr} {ns ms : List Int} (h1 : SqL K H p (ns.map V.int)) (h2 : SqL K H q (ms.map V.int)) (h : Q (.bl (!decide (ns = ms))) H) : rNeD K (.ref p) (.ref q) H Q :=
  ⟨_, _, .lst h1 (dpAll_ints ns), .lst h2 (dpAll_ints ms), PySem.W.ke_shaped_ints ns, PySem.W.ke_shaped_ints ms, by rw [PyData.eqv, eqv_ints]; exact h⟩
theorem r_reprI (h : i.natAbs < 10 ^ 75) (q : Q (.str (PyData.int i).shown) H) : rRepr K [.int i] H Q := ⟨_, _, 76, rfl, .int i, (Sh.int h).le (by decide) (by decide), by decide, q⟩
theorem r_reprL2 {z : Addr} (hz : SqL K H z [.int i, .int j]) (h1 : i.natAbs < 10 ^ 75) (h2 : j.natAbs < 10 ^ 75) (q : Q (.str (PyData.list [.int i, .int j]).shown) H) : rRepr K [.ref z] H Q :=
  ⟨_, _, _, rfl, .lst hz (.cons (.int i) (.cons (.int j) .nil)), (Sh.list (n := 76) (k := 0) fun d hd => by
    rcases List.mem_cons.mp hd with rfl | hd
    · exact Sh.int h1
    · cases List.mem_singleton.mp hd; exact Sh.int h2).le (m := 200) (show 2 * 76 + 2 * 2 + 3 ≤ 200 by decide) (by decide), by decide, q⟩
theorem if_mk {b : Bool} (R : V → Hp → Prop) (h1 : b = true → ∀ Q : VK, (∀ v H', R v H' → Q v H') → ta σ H Q) (h2 : b = false → ∀ Q : VK, (∀ v H', R v H' → Q v H') → tb σ H Q) (h : ∀ v H', R v H' → Q v H') : if b = true then ta σ H Q else tb σ H Q := by
  cases b with
  | true => exact h1 rfl Q h
  | false => exact h2 rfl Q h
theorem strOk_of (z : String) : PyData.strOk (Str.ofString z) = true := by
  rw [Str.ofString_eq_toList]
  unfold PyData.strOk
  rw [Array.all_eq_true']
  intro a ha
  simp only [List.mem_toArray, List.mem_map] at ha
  obtain ⟨c, _, rfl⟩ := ha
  have := c.valid
  refine decide_eq_true ?_
  rcases c.valid with h | h
  · have h' : c.toNat < 0xd800 := h
    omega
  · have h' : c.toNat < 0x110000 := h.2
    omega
/-! ### comprehensions -/
def LcW (J : L2.It) (g : TG) (tt : TT) (te : TE) (vs : List Nat) (σ : L2.St) (H1 : Hp) (D : Addr) (Q : VK) : Prop := ∃ W : Nat → Nat → Hp → Prop, (∃ m, W 0 m (upd H1 D (.lst []))) ∧ ∀ i m H, W i m H →
  (J.stop i H ∧ Q (.ref D) H) ∨ (J.go i H ∧ ∃ Nx : Hp → Prop, (∀ H', Nx H' → ∃ m', m' < m ∧ W (i + 1) m' H') ∧ ∀ x H', J.yld i H x H' → g x (wipe σ vs) H' fun σ2 H2 => wipe σ2 vs = wipe σ vs ∧ tt σ2 H2 fun b H3 =>
    if b = true then te σ2 H3 fun y H4 => ∃ acc, H4 D = some (.lst acc) ∧ acc.length < sizeLine ∧ Nx (upd H4 D (.lst (acc ++ [y]))) else Nx H3)
section
variable {g : TG} {vs : List Nat}
theorem t_lcT (h : ta σ H fun x H1 => ∃ a, x = .ref a ∧ (∃ xs, SqT K H1 a xs) ∧ ∀ D, H1 D = none → LcW (Itt K a) g t te vs σ H1 D Q) : tLc (iTup K ta) g t te vs σ H Q := h
theorem t_lcL (h : ta σ H fun x H1 => ∃ a, x = .ref a ∧ (∃ xs, SqL K H1 a xs) ∧ ∀ D, H1 D = none → LcW (Itl K a) g t te vs σ H1 D Q) : tLc (iList K ta) g t te vs σ H Q := h
theorem t_lcR (h : tr σ H fun ws H1 => ∃ j : Int, ws = [.int j] ∧ -(2 ^ 62) ≤ j ∧ j < 2 ^ 62 ∧ ∀ D, H1 D = none → LcW (Itr 0 j.toNat) g t te vs σ H1 D Q) : tLc (iRng1 tr) g t te vs σ H Q := h
/-- no item is kept, the tests leave the heap -/
theorem lcT_no {a : Addr} {xs : List V} {D : Addr} (hs : SqT K (upd H D (.lst [])) a xs) (ht : ∀ x ∈ xs, ∀ R : L2.St → Bool → Hp → Prop, (∀ σ2, R σ2 false (upd H D (.lst []))) → g x (wipe σ vs) (upd H D (.lst [])) fun σ2 H2 => wipe σ2 vs = wipe σ vs ∧ t σ2 H2 (R σ2)) (q : Q (.ref D) (upd H D (.lst []))) :
    LcW (Itt K a) g t te vs σ H D Q := by
  refine lc_tup (Qd := fun H' => Q (.ref D) H') (xs := xs) (fun _ H' => H' = upd H D (.lst [])) rfl (fun i H' _ e => e ▸ hs) (fun i x H' hx e => ?_) fun H' e => e ▸ q
  subst e
  refine ht x (List.mem_of_getElem? hx) (fun σ2 b H3 => if b = true then te σ2 H3 fun y H4 => ∃ acc, H4 D = some (.lst acc) ∧ acc.length < sizeLine ∧ upd H4 D (.lst (acc ++ [y])) = upd H D (.lst []) else H3 = upd H D (.lst [])) fun σ2 => ?_
  exact iteF rfl
theorem lcL_no {a : Addr} {xs : List V} {D : Addr} (hs : SqL K (upd H D (.lst [])) a xs) (ht : ∀ x ∈ xs, ∀ R : L2.St → Bool → Hp → Prop, (∀ σ2, R σ2 false (upd H D (.lst []))) → g x (wipe σ vs) (upd H D (.lst [])) fun σ2 H2 => wipe σ2 vs = wipe σ vs ∧ t σ2 H2 (R σ2)) (q : Q (.ref D) (upd H D (.lst []))) :
    LcW (Itl K a) g t te vs σ H D Q := by
  refine lc_list (Qd := fun H' => Q (.ref D) H') (xs := xs) (fun _ H' => H' = upd H D (.lst [])) rfl (fun i H' _ e => e ▸ hs) (fun i x H' hx e => ?_) fun H' e => e ▸ q
  subst e
  refine ht x (List.mem_of_getElem? hx) (fun σ2 b H3 => if b = true then te σ2 H3 fun y H4 => ∃ acc, H4 D = some (.lst acc) ∧ acc.length < sizeLine ∧ upd H4 D (.lst (acc ++ [y])) = upd H D (.lst []) else H3 = upd H D (.lst [])) fun σ2 => ?_
  exact iteF rfl
end
end
end Ol

namespace Ol
open PySem PySem.W PySem.Spec PySem.Calls PyProof.Rows L2
/-! ### a method that closes over __class__ -/
structure FunS (P : Program) (K : Frag) (x qual : Str) (st : Stmt) (f : Addr) (fd : FuncData) (D : Addr) : Prop where
  ex : ∃ (oc : Value) (od : Option Addr) (kV doc pm : Value) (an : Option Addr) (cda : Addr) (ct : Value) (osl : Array (Option Value)) (cc : Addr),
    fd = ksFn x qual (defArgs st) (defBody st) (defScope st) .none kV doc pm an (.ref cda) ct cc ∧ K.lookup f = some ⟨oc, od, .func fd, osl⟩ ∧ codeIn K (.ref cda) qual = true ∧
    (∃ (cl : Value) (cld : Option Addr) (csl : Array (Option Value)), K.lookup cc = some ⟨cl, cld, .cell (some (.ref D)), csl⟩) ∧
    ∃ (ccl : Value) (cdd : Option Addr) (ccs : Array (Option Value)) (vs : Array Value) (file : Str) (tf : Tok), K.lookup cda = some ⟨ccl, cdd, .fields vs, ccs⟩ ∧ vs[2]? = some (.str file tf) ∧ ((P.main.file : Str) == file) = true
  top : (P.main.scope.names.lookup ("super" : Str)).isSome = false
  cls : ∃ cd, clsIn K D = some cd
  kp : keepIn K (.ref f) = true
structure SupScope (N ps : List Str) (sc : Scope) : Prop where
  kind : sc.kind = .function
  co : sc.isCoroutine = false
  gen : sc.isGenerator = false
  nd : N.Nodup
  pre : N.take ps.length = ps
  par : ∀ x ∈ ps, sc.names.lookup x = some .local
  nocell : ∀ y ∈ sc.names, y.2 ≠ .cell
  free : ∀ y ∈ sc.names, y.2 = .free → y.1 = "__class__"
  sup : sc.names.lookup ("super" : Str) = some .globalImplicit
  cl : sc.names.lookup ("__class__" : Str) = some .free
/-- the context of such a method's body -/
def cxS (CX : CXT) (P : Program) (w : World) (K : Frag) (mg : Str → Option Value) (base : Heap) (N : List Str) (qual : Str) (scope : Scope) (f : Addr) (cd : Value) (cc : Addr) (A : Around) (outer : List Env) (s : Shared) (H : Hp) (E : XK) : Cx where
  prog := P
  w := w
  K := K
  mg := mg
  base := base
  A := A.deeper (ksEnv qual scope s.heap.objs.size f cd cc)
  N := N
  s_0 := s
  H_0 := H
  env := ksEnv qual scope s.heap.objs.size f cd cc
  outer := outer
  stack := ksEnv qual scope s.heap.objs.size f cd cc :: outer
  ex := []
  calm := true
  fn := fun _ => false
  pn := []
  xe := fun e s' => wpAny (model P w) (A.deeper (ksEnv qual scope s.heap.objs.size f cd cc)) (leaving (ksEnv qual scope s.heap.objs.size f cd cc) e) (fun _ s'' => CX outer H s E e s'') (fun e' s'' => CX outer H s E e' s'') s'
theorem zip_rev {ps : List Str} {us : List Value} (nd : ps.Nodup) {i : Nat} {y : Str} {u : Value} (hp : ps[i]? = some y) (hu : us[i]? = some u) : (ps.zip us).reverse.lookup y = some u := by
  have hm : (y, u) ∈ (ps.zip us).reverse := by
    rw [List.mem_reverse]
    refine List.mem_of_getElem? (i := i) ?_
    rw [List.getElem?_zip_eq_some]
    exact ⟨hp, hu⟩
  have un : ∀ v, (y, v) ∈ (ps.zip us).reverse → v = u := fun v hv => by
    rw [List.mem_reverse] at hv
    obtain ⟨j, hj⟩ := List.getElem?_of_mem hv
    rw [List.getElem?_zip_eq_some] at hj
    have e : i = j := by
      have hi : i < ps.length := (List.getElem?_eq_some_iff.mp hp).1
      exact (List.getElem?_inj hi nd).mp (hp.trans hj.1.symm)
    subst e
    exact Option.some.inj (hj.2.symm.trans hu)
  cases h : (ps.zip us).reverse.lookup y with
  | none => exact absurd (List.lookup_eq_none_iff.mp h _ hm) (by simp)
  | some v => rw [un v (PySem.mem_of_lookup h)]
theorem inv_startS {CX : CXT} {P : Program} {w : World} {K : Frag} {mg : Str → Option Value} {base : Heap} {N ps : List Str} {qual : Str} {scope : Scope} {f cc D : Addr} {cd : Value} {A : Around} {outer : List Env} {s : Shared} {H : Hp} {E : XK} {us : List Value} {vs : List V} {h1 : Heap} {tk : Nat}
    {cl : Value} {cld : Option Addr} {csl : Array (Option Value)} (S : SupScope N ps scope) (hd : A.handled = none) (e0 : Env0 P w K mg base A outer s H) (hl : vs.length = ps.length) (r : Vals vs us) (hcc : K.lookup cc = some ⟨cl, cld, .cell (some (.ref D)), csl⟩)
    (hns : h1.Ns s.heap.objs.size fun x => (ps.zip us).reverse.lookup x) (hk : ∀ b o, s.heap.get? b = some o → h1.get? b = some o) :
    Inv (cxS CX P w K mg base N qual scope f cd cc A outer s H E) [] (L2.start N vs) H { s with heap := h1, toks := tk } := by
  have hpl : ps.length ≤ N.length := by have := congrArg List.length S.pre; rw [List.length_take] at this; omega
  have noA : ∀ b : Addr, b ∉ (cxS CX P w K mg base N qual scope f cd cc A outer s H E).ex := fun b z => absurd (show b ∈ ([] : List Addr) from z) (by simp)
  have one : ∀ {y : Str} {c : Addr}, ([("__class__", cc)] : List (Str × Addr)).lookup y = some c → y = "__class__" ∧ c = cc := fun {y c} e => by
    have m := PySem.mem_of_lookup e
    simp only [List.mem_singleton, Prod.mk.injEq] at m
    exact m
  have hb := e0.bs cc _ (e0.mod.kin cc _ hcc)
  refine ⟨⟨e0.mod, S.kind, rfl, rfl, Nat.le_refl _, fun y z c h1 h2 => ?_, fun y hy => ?_, fun y c z _ => ?_, fun _ => hd, Around.frames_deeper e0.frames, .inr ⟨rfl, rfl⟩, fun b z => absurd z (noA b), e0.bs, e0.bsz, fun b _ _ => noA b, fun b z => absurd z (noA b), e0.funs, e0.frf⟩,
    rfl, e0.bare, Un.kept hk, ⟨_, hns, fun i y v h1 h2 h3 => ?_⟩, fun y c h => ?_, e0.hok.fresh (Nat.le_refl _), fun y c h => ?_, fun p hp => absurd (show p ∈ ([] : List (Addr × Obj)) from hp) (by simp), e0.hok.kept hk, ?_⟩
  · exact (one h1).1.trans (one h2).1.symm
  · have hy : scope.names.lookup y = some .cell ∨ scope.names.lookup y = some .free := hy
    rcases hy with hy | hy
    · exact absurd rfl (S.nocell _ (PySem.mem_of_lookup hy))
    · rw [show y = "__class__" from S.free _ (PySem.mem_of_lookup hy) rfl]
      exact ⟨cc, rfl⟩
  · cases (show false = true from z)
  · have hi : i < vs.length := by
      unfold L2.start at h2
      by_cases hi : i < vs.length
      · exact hi
      · rw [List.getElem?_append_right (by simpa using hi)] at h2
        rw [List.getElem?_replicate] at h2
        split at h2 <;> cases h2
    have ha : vs[i]? = some v := by
      unfold L2.start at h2
      rw [List.getElem?_append_left (by simpa using hi), List.getElem?_map] at h2
      cases e : vs[i]? with
      | none => rw [e] at h2; cases h2
      | some a => rw [e] at h2; cases h2; rfl
    obtain ⟨u, hu, rv⟩ := r.get ha
    have hp : ps[i]? = some y := by
      rw [← S.pre, List.getElem?_take_of_lt (by omega)]; exact h1
    have ndP : ps.Nodup := by rw [← S.pre]; exact S.nd.sublist (List.take_sublist _ _)
    exact ⟨u, rv, .inl ⟨S.par y (List.mem_of_getElem? hp), zip_rev ndP hp hu⟩⟩
  · rw [(one h).2]
    exact ⟨_, _, hk _ _ hb.1, rfl⟩
  · rw [(one h).2]
    exact hb.2
  · unfold L2.start
    show _ = N.length
    rw [List.length_append, List.length_map, List.length_replicate]
    omega
/-! ### super() -/
section
variable {CX : CXT} {P : Program} {w : World} {K : Frag} {mg : Str → Option Value} {base : Heap} {N ps : List Str} {qual : Str} {scope : Scope} {f cc D cda C a : Addr} {A : Around} {outer : List Env} {s0 s : Shared} {H0 H : Hp} {E0 : XK} {σ : L2.St} {E : Value → Shared → Prop} {fd : FuncData}
  {oc cl ccl : Value} {od cld cdd : Option Addr} {osl csl ccs : Array (Option Value)} {vs : Array Value} {file : Str} {tf : Tok} {cdD : ClassData} {ar : Arg} {ox : Obj} {odx : Option Obj} {body : List Stmt} {p0 p1 : Pos} {attr : Str} {whole : Sem Value}
/-- super() is made -/
theorem sup_node {Q : Value → Shared → Prop} (I : Inv (cxS CX P w K mg base N qual scope f (.ref cda) cc A outer s0 H0 E0) [] σ H s) (S : SupScope N ps scope) (hf : K.lookup f = some ⟨oc, od, .func fd, osl⟩) (hp : (fd.params.posonlyargs ++ fd.params.args).head? = some ar)
    (hcode : K.lookup cda = some ⟨ccl, cdd, .fields vs, ccs⟩) (hvs : vs[2]? = some (.str file tf)) (hfile : ((P.main.file : Str) == file) = true) (hcell : K.lookup cc = some ⟨cl, cld, .cell (some (.ref D)), csl⟩) (hD : clsIn K D = some cdD) (hsub : mroIn K C (.ref D) = some true) (hms : mg "super" = none)
    (hat : (attr == ("__class__" : Str)) = false) (htop : (P.main.scope.names.lookup ("super" : Str)).isSome = false) (hn : N[0]? = some ar.arg) (hka : scope.names.lookup ar.arg = some .local) (hσ : σ[0]? = some (some (.ref a))) (J : InstAt s.heap a ox C odx)
    (h : ∀ h', h'.get? s.heap.objs.size = some (ks_superObj D a C) → (∀ y o, s.heap.get? y = some o → h'.get? y = some o) → Q (.ref s.heap.objs.size) { s with heap := h' }) :
    _root_.PySem.wpAt (model P w) (A.deeper (ksEnv qual scope s0.heap.objs.size f (.ref cda) cc)) (.func body (ksEnv qual scope s0.heap.objs.size f (.ref cda) cc)) (attributeBase (.Call (.Name "super" p0) [] [] p1) attr (ksEnv qual scope s0.heap.objs.size f (.ref cda) cc) whole) Q E s := by
  have X : K.In s.heap := I.kIn
  obtain ⟨mb, hb1, hb2⟩ := I.mod.blt
  obtain ⟨m, hm, hl⟩ := I.loc
  obtain ⟨u, ru, lu⟩ := hl 0 _ _ hn hσ (.inl hka)
  cases (show u = Value.ref a from ru)
  have hv : m ar.arg = some (.ref a) := by
    rcases lu with ⟨_, z⟩ | ⟨z | z, _⟩
    · exact z
    · rw [show scope.names.lookup ar.arg = _ from z] at hka; cases hka
    · rw [show scope.names.lookup ar.arg = _ from z] at hka; cases hka
  have gk := I.mod.glob.keeps I.bk
  have bk := hb1.keeps I.bk
  have hm' : s.heap.Ns s0.heap.objs.size m := hm
  obtain ⟨hh, g, d, t, os⟩ := s
  obtain ⟨oD, hD1, hD2⟩ : ∃ oD, hh.get? D = some oD ∧ oD.data = .cls cdD := by
    unfold clsIn at hD
    split at hD
    · rename_i c d cd' sl ho
      cases hD
      exact ⟨_, X _ _ ho, rfl⟩
    · cases hD
  refine ks_wpAt_super_base (env := ksEnv qual scope s0.heap.objs.size f (.ref cda) cc) S.sup S.cl hat rfl (X _ _ hf) rfl hp rfl (X _ _ hcode) rfl hvs hfile htop ?_
  refine ks_loadName_global S.kind S.sup (loadGlobal_builtin (env := ksEnv qual scope s0.heap.objs.size f (.ref cda) cc) gk hms bk ((hb2 _ (by decide +kernel)).trans (by decide +kernel)) ⟨rfl, ?_⟩)
  refine wpAny_loadName_free S.kind S.cl rfl ⟨_, X _ _ hcell, rfl⟩ ?_
  refine wpAny_loadName_local S.kind hka hm' hv ?_
  refine ks_wpAny_isType_cls hD1 hD2 ⟨rfl, ?_⟩
  refine ks_wpAny_call_super hD1 hD2 J.at_ J.cls (fun c e => ?_) (looks_mroIn X hsub) (fun h' e k => ?_)
  · have := J.no
    unfold notCls at this
    rw [e] at this
    exact Bool.noConfusion this
  · exact h h' e k
end
section
variable {prog : Program} {w : World} {A : Around} {E : Value → Shared → Prop} {h : Heap} {g : Array GenState} {d : Drawn} {t : Nat} {os : OsState}
variable {nm q : Str} {C N : Addr} {bs bm : List Value} {hdct : Bool} {sn : List Str} {sub : List Value} {ab : Bool} {col : Option Bool} {dd : Option Addr} {k0 k1 k2 k3 k5 : Option Value}
/-- ValueError.__init__ bound to an exception, called -/
theorem call_mw {u e t0 : Addr} {rest : List Value} {Q : Value → Shared → Prop}
    (hC : h.get? C = some (excClassObj nm q C N bs bm hdct sn sub ab col dd k0 k1 k2 k3 k5 "ValueError.__new__")) (he : h.get? e = some (HandSPX.excO C t0)) (hu : h.get? u = some (kxs_mw "ValueError.__init__" e)) (hrest : rest.length ≤ sizeLine)
    (hq : ∀ h' t1, (∀ b o, b ≠ e → h.get? b = some o → h'.get? b = some o) → h'.get? e = some (HandSPX.excO C t1) → Q .none ⟨h', g, d, t, os⟩) :
    wpAny (model prog w) A (call (.ref u) rest) Q E ⟨h, g, d, t, os⟩ := by
  refine wpAny_call (codeAny_of_tree ?_)
  show wpAny _ A.in1 (callAny (.ref u) ⟨rest, []⟩) _ _ _
  simp only [callAny]
  refine wpAny_bind (wpAny_load hu ?_)
  simp only [kxs_mw, show (Value.type "method-wrapper" == Value.type "method" || Value.type "method-wrapper" == Value.type "builtin_function_or_method" || Value.type "method-wrapper" == Value.type "method-wrapper") = true by decide, if_true]
  refine W.KFB.if_so (by decide) ?_
  refine wpAny_bind (ESX.check_bound F.excBase_ValueError hC he rfl ?_)
  refine wpAny_bind (wpAny_pure (wpAny_pure ?_))
  refine ⟨Code.quiet_builtin _ (by decide +kernel), codeAny_builtin F.excBase_ValueError.initEntry ?_⟩
  rw [Around.under_plainId F.excBase_ValueError.init.plain _]
  wp_walk
  refine hq _ h.objs.size (fun b o hb ho => ?_) ?_
  · rw [Heap.get?_update_other _ _ (Ne.symm hb)]
    exact Heap.get?_push_of_some _ ho
  · rw [Heap.get?_update_self _ (Heap.get?_push_of_some _ he) rfl]
    rfl
end
end Ol

namespace Ol
open PySem PySem.W PySem.Spec PySem.Calls PyProof.Rows L2
section
variable {P : Program} {w : World} {K : Frag} {mg : Str → Option Value} {base : Heap} {N ps : List Str} {x qual : Str} {st : Stmt} {f D : Addr} {fd : FuncData} {k : Nat} {sp : Sp} {p0 p1 p2 p3 p4 : Pos} {e : Expr} {es : List Expr} {rest : List Stmt} {ar : Arg}
theorem hin {env : Env} (h : env.scope.kind = .function) : interactive env = false := by
  unfold interactive
  rw [h]
  rfl
/-- what a class of exceptions says of super().__init__ in a method of its base D -/
structure SupE (K : Frag) (C D : Addr) : Prop where
  oex : OexC K C
  mro : mroIn K C (.ref D) = some true
  sup : ks_superIn K C D "__init__" = some (some (.builtin "ValueError.__init__"))
  sub : subIn K (.ref C) (.type "ValueError") = some true
/-- an exception's __init__ that begins with super().__init__(..) -/
theorem FunS.okE (F : FunS P K x qual st f fd D) (S : SupScope N ps (defScope st)) (hb : defBody st = .Expr (.Call (.Attribute (.Call (.Name "super" p0) [] [] p1) "__init__" p2) (e :: es) [] p3) p4 :: rest) (hp : ((defArgs st).posonlyargs ++ (defArgs st).args).head? = some ar) (hn : N[0]? = some ar.arg) (hka : (defScope st).names.lookup ar.arg = some .local)
    (hms : mg "super" = none) (hop : nsIn K cStatics "thirdparty.any" = some none) (len : ∀ vs H Q E, sp vs H Q E → vs.length = ps.length)
    (hbody : ∀ (cda cc : Addr) (A : Around) (outer : List Env) (s : Shared) (H : Hp) (vs : List V) (Q : VK) (E : XK), Room k (A.deeper (ksEnv qual (defScope st) s.heap.objs.size f (.ref cda) cc)) → sp vs H Q E →
      ∃ (a C : Addr) (ta : TA) (t : TS), (L2.start N vs)[0]? = some (some (.ref a)) ∧ SupE K C D ∧ H a = some (exo a C none) ∧ PA (cxS CX0 P w K mg base N qual (defScope st) f (.ref cda) cc A outer s H E) (e :: es) ta ∧ PSs (cxS CX0 P w K mg base N qual (defScope st) f (.ref cda) cc A outer s H E).nox rest t ∧
        ta (L2.start N vs) H fun ws H1 => ws.length ≤ 1000 ∧ H1 a = some (exo a C none) ∧ t { nx := fun _ H' => Q .non H', rt := Q } (L2.start N vs) H1)
    (he : ∀ env : Env, starEach (e :: es) env = (false, eval e env) :: starEach es env := by intro _; rfl) (hpl : ∀ env : Env, (backTo p3 (starEach es env)).any (·.1) = false := by intro _; rfl)
    (hev : ∀ (env : Env), ∃ pl : Sem Bool, eval (.Call (.Attribute (.Call (.Name "super" p0) [] [] p1) "__init__" p2) (e :: es) [] p3) env = (do
      let ov ← attributeBase (.Call (.Name "super" p0) [] [] p1) "__init__" env (eval (.Call (.Name "super" p0) [] [] p1) env)
      standAt p2.atName
      let (f, first) ← holding [ov] (getMethod ov "__init__" pl)
      callWith p3 f first (backTo p3 (starEach (e :: es) env)) []) := by intro _; exact ⟨_, rfl⟩)
    (hsw : ∀ env : Env, swapsWith (.Call (.Attribute (.Call (.Name "super" p0) [] [] p1) "__init__" p2) (e :: es) [] p3) none p4.line env = pure false := by intro _; rfl) : FnOk P w K mg base CX0 (k + 1) f fd ps sp := by
  obtain ⟨oc, od, kV, doc, pm, an, cda, ct, osl, cc, rfl, lk, hcd, ⟨cl, cld, csl, hcell⟩, ccl, cdd, ccs, cvs, file, tf, hcode, hvs, hfile⟩ := F.ex
  obtain ⟨cdD, hD⟩ := F.cls
  refine ⟨len, fun A outer s H args us vs Q E hr e0 hbd r hsp => ?_⟩
  have hk : ∀ b o, base.get? b = some o → s.heap.get? b = some o := fun b o e => (e0.bs b o e).1
  have KX := e0.mod.kin.keeps hk
  have hl := len _ _ _ _ hsp
  refine ks_codeAny_call_defAt hr.depth (KX _ _ lk) rfl (e0.mod.nolimit.keeps hk) (codeRec_of KX hcd) rfl hbd S.nocell (fun y hy => S.par y.1 (List.of_mem_zip hy).1) (fun h₀ hns hk0 => ?_) S.co S.gen S.kind
  have I : Inv (cxS CX0 P w K mg base N qual (defScope st) f (.ref cda) cc A outer s H E) [] (L2.start N vs) H { s with heap := h₀, toks := s.toks + (ps.zip us).length } := inv_startS S hr.hd e0 hl r hcell hns hk0
  obtain ⟨a, C, ta, t, h0, SE, ea, ha, ht, hta⟩ := hbody cda cc A outer s H vs Q E (hr.deeper _) hsp
  obtain ⟨nm, q, Nc, bs, bm, sn, sub, ab, col, dd, k0, k1, k2, k3, k5, hC, hbm⟩ := SE.oex.cls
  show _root_.PySem.wpAt (model P w) (A.deeper (ksEnv qual (defScope st) s.heap.objs.size f (.ref cda) cc)) (.func (defBody st) (ksEnv qual (defScope st) s.heap.objs.size f (.ref cda) cc)) (execs (defBody st) (ksEnv qual (defScope st) s.heap.objs.size f (.ref cda) cc)) _ _ _
  generalize hbb : defBody st = bb
  rw [hbb] at hb
  subst hb
  obtain ⟨pl, hev'⟩ := hev (ksEnv qual (defScope st) s.heap.objs.size f (.ref cda) cc)
  refine ks_wpAt_execs_cons (ks_wpAt_Expr_any (ks_wpAt_MethodCall (pl := pl) ?_ hev') (hin S.kind) (hsw _))
  obtain ⟨t1, ho⟩ := exo_at I.hok ea
  have J : InstAt h₀ a _ C none := ⟨ho, rfl, rfl, trivial⟩
  refine sup_node I S lk hp hcode hvs hfile hcell hD SE.mro hms (by decide) F.top hn hka h0 J fun h1 e1 k1 => ?_
  have I1 := I.kept (t' := s.toks + (ps.zip us).length) k1
  have J1 : InstAt h1 a _ C none := ⟨k1 _ _ ho, rfl, rfl, trivial⟩
  have X1 : K.In h1 := I1.kIn
  cases hc : clsIn K C with
  | none => have hm := SE.sup; unfold ks_superIn at hm; rw [hc] at hm; cases hm
  | some cd =>
    have hm := SE.sup
    unfold ks_superIn at hm
    rw [hc] at hm
    refine kxs_getMethod kxs_ValueError e1 (looks_opaque X1 hop) (l₀ := cd.mro) (fun A Q E s k q => wpAny_bind ((looks_clsIn X1 hc) A _ E s k (wpAny_pure q))) rfl X1 hm (J1.type.andThen (looks_subIn X1 SE.sub)) (ks_ne X1 J1 hc) (by decide) ?_
    have I2 : Inv (cxS CX0 P w K mg base N qual (defScope st) f (.ref cda) cc A outer s H E) [(h1.objs.size, kxs_mw "ValueError.__init__" a)] (L2.start N vs) H { s with heap := h1.push (kxs_mw "ValueError.__init__" a), toks := s.toks + (ps.zip us).length + 1 } := by
      refine (I1.kept (t' := s.toks + (ps.zip us).length + 1) fun b o e => Heap.get?_push_of_some _ e).pins_of fun p hp => ?_
      cases List.mem_singleton.mp hp
      exact ⟨Heap.get?_push_at rfl rfl, I1.hok.fresh (Nat.le_refl _), Nat.ne_of_gt I1.lt, I1.nofs (Nat.le_refl _), fun v z => by cases z⟩
    have run := ha.run p3 _ _ _ H _ I2 hta
    rw [show starEach (e :: es) (cxS CX0 P w K mg base N qual (defScope st) f (.ref cda) cc A outer s H E).env = (false, eval e (ksEnv qual (defScope st) s.heap.objs.size f (.ref cda) cc)) :: starEach es (ksEnv qual (defScope st) s.heap.objs.size f (.ref cda) cc) from he _] at run
    dsimp only
    rw [he]
    refine kxs_callWith (i := "ValueError.__init__") (x := a) (by show (false || (backTo p3 (starEach es _)).any (·.1)) = false; rw [hpl]; rfl) (evalArgs_plain ?_)
    refine thn run fun ws s3 ⟨zs, H1, I3, rz, hz, ea1, ht1⟩ => ⟨(I3.pin (h1.objs.size, kxs_mw "ValueError.__init__" a) (by simp)).1, ?_⟩
    have pu := (I3.pin (h1.objs.size, kxs_mw "ValueError.__init__" a) (by simp)).1
    obtain ⟨t2, ho3⟩ := exo_at I3.hok ea1
    obtain ⟨hp3, g3, d3, tk3, os3⟩ := s3
    refine call_mw (I3.kIn _ _ hC) ho3 pu (by show ws.length ≤ sizeLine; rw [← Paired.length rz, sizeLine_eq]; omega) fun h' t4 k4 hx => ?_
    have J4 := I3.write (t' := tk3) (x := a) (e := a) (o := exo a C none) (by rw [ea1]; exact True.intro) (.inl rfl) k4 ⟨_, hx⟩ (exo_ok hx)
    have eu : upd H1 a (exo a C none) = H1 := by
      funext b
      by_cases hb : b = a
      · rw [hb, upd_same, ea1]
      · rw [upd_ne hb]
    rw [eu] at J4
    have J5 := J4.pins_of (pins' := []) fun p hp => by cases hp
    refine wpAt_of_wpAny (wpAny_mono (ht.nox.run [] _ _ H1 _ J5 ht1) (fun fl s' hs => ?_) fun e s' hs => hs)
    have fin : ∀ {σ' : L2.St} {H' : Hp} {v : V} {u : Value}, Inv (cxS CX0 P w K mg base N qual (defScope st) f (.ref cda) cc A outer s H E) [] σ' H' s' → L2.RelV v u → Q v H' → CE outer P w H s Q u s' :=
      fun {σ' H' v u} J rv q => ⟨v, H', J.os, J.bare, J.base, J.hok, rv, q⟩
    cases fl with
    | ret u =>
      obtain ⟨v, σ', H', J, rv, q⟩ := hs
      exact fin J rv q
    | next =>
      obtain ⟨σ', H', J, q⟩ := hs
      exact fin (v := V.non) (u := Value.none) J rfl q
    | brk =>
      obtain ⟨_, _, _, q⟩ := hs
      exact False.elim q
    | cont =>
      obtain ⟨_, _, _, q⟩ := hs
      exact False.elim q
end
end Ol

namespace Ol
open PySem PySem.W PySem.Spec PySem.Calls PyProof.Rows L2
/-! ### errors as values -/
/-- at a: an error of the class at C, with the dict d -/
def exv (a C : Addr) (d : Option Addr) : HO := .ext fun h => ∃ (o : Obj) (vs : Array Value), h.get? a = some o ∧ o.cls = .ref C ∧ o.dict = d ∧ o.data = .fields vs
theorem exv_ok {P : Program} {w : World} {H : Hp} {h : Heap} {a C : Addr} {d : Option Addr} {o : Obj} {vs : Array Value} (e : h.get? a = some o) (h1 : o.cls = .ref C) (h2 : o.dict = d) (h3 : o.data = .fields vs) : ObjOk P w H h a (exv a C d) :=
  ⟨⟨o, vs, e, h1, h2, h3⟩, ⟨o, e⟩, fun x y z k => by
    obtain ⟨o, vs, e, h1, h2, h3⟩ := z
    exact ⟨o, vs, k _ e, h1, h2, h3⟩⟩
theorem exv_at {P : Program} {w : World} {H : Hp} {h : Heap} {a C : Addr} {d : Option Addr} (hok : HOk P w H h) (he : H a = some (exv a C d)) : ∃ (o : Obj) (vs : Array Value), h.get? a = some o ∧ o.cls = .ref C ∧ o.dict = d ∧ o.data = .fields vs := by
  have x : ObjOk P w H h a (.ext fun h => ∃ (o : Obj) (vs : Array Value), h.get? a = some o ∧ o.cls = .ref C ∧ o.dict = d ∧ o.data = .fields vs) := hok a _ he
  exact x.1
structure ErrC (K : Frag) (C : Addr) : Prop where
  xf : XfC K C
  ex : ExcC K C
def ErrAt (H : Hp) (a C : Addr) (fs : List (Str × V)) : Prop := ∃ dx, H a = some (exv a C (some dx)) ∧ H dx = some (.xd fs)
theorem ErrAt.same {H H' : Hp} {a C : Addr} {fs : List (Str × V)} (e : ErrAt H a C fs) (s : Same H H') : ErrAt H' a C fs := by
  obtain ⟨dx, h1, h2⟩ := e
  exact ⟨dx, s _ _ h1, s _ _ h2⟩
section
variable {X : Cx} {pins : List (Addr × Obj)} {σ : L2.St} {H : Hp} {s : Shared}
/-- a pinned object is tracked -/
theorem track {a : Addr} {oe : Obj} {vs : Array Value} {o : HO} (I : Inv X ((a, oe) :: pins) σ H s) (n0 : X.s_0.heap.get? a = none) (hp : ∀ p ∈ X.pn ++ pins, p.1 ≠ a) (hd : oe.data = .fields vs) (new : ObjOk X.prog X.w (upd H a o) s.heap a o) : Inv X pins σ (upd H a o) s := by
  obtain ⟨ha, na, nL, nF, nc⟩ := I.pin (a, oe) (List.mem_append_right _ List.mem_cons_self)
  have up : ∀ {b : Addr} {u : HO}, H b = some u → upd H a o b = some u := fun {b u} e => by rw [upd_ne (ne_of_none e na)]; exact e
  have upn : ∀ {b : Addr}, b ≠ a → H b = none → upd H a o b = none := fun {b} n e => by rw [upd_ne n]; exact e
  refine ⟨I.ok, I.os, I.bare, ⟨I.base.keep, I.base.slot, fun b u e n hx => upn (fun z => by rw [z, n0] at e; cases e) (I.base.free b u e n hx), I.base.there, fun b xs e => up (I.base.tups b xs e), fun b ob u e => up (I.base.frzs b ob u e), fun b ps e => by
      obtain ⟨more, q⟩ := I.base.tbls b ps e
      exact ⟨more, up q⟩⟩, I.loc, I.cell, upn (Ne.symm nL) I.free, fun y c e => upn (fun z => ?_) (I.freeC y c e), fun p hp' => ?_, fun b u e => ?_, I.len⟩
  · obtain ⟨v, ob, h1, h2⟩ := I.cell y c e
    rw [z, ha] at h1
    cases h1
    rw [hd] at h2
    cases h2
  · have hp2 : p ∈ X.pn ++ (a, oe) :: pins := by
      rcases List.mem_append.mp hp' with h | h
      · exact List.mem_append_left _ h
      · exact List.mem_append_right _ (List.mem_cons_of_mem _ h)
    obtain ⟨e1, e2, e3, e4, e5⟩ := I.pin p hp2
    exact ⟨e1, upn (hp p hp') e2, e3, e4, e5⟩
  · by_cases hb : b = a
    · subst hb
      rw [upd_same] at e
      cases e
      exact new
    · rw [upd_ne hb] at e
      exact (I.hok b u e).stay (fun c v _ q => q) (fun c q => up q) fun c xs q => up q
/-- e.f, e an error -/
def tFldE (K : Frag) (te : TE) (f : Str) : TE := fun σ H Q => te σ H fun x H1 => ∃ (a C : Addr) (fs : List (Str × V)) (v : V), x = .ref a ∧ ErrAt H1 a C fs ∧ XfC K C ∧ findIn K (.ref C) f = some none ∧ fs.lookup f = some v ∧ Q v H1
theorem pe_fldE {e : Expr} {te : TE} {pos : Pos} {n : Str} (he : PE X e te) (hb : attributeBase e n X.env (eval e X.env) = eval e X.env := by rfl) : PE X (.Attribute e n pos) (tFldE X.K te n) := by
  refine ⟨fun pins s σ H Q I h => ?_⟩
  refine attr_of hb (thn (he.run pins s σ H _ I h) fun u s1 hh => ?_)
  obtain ⟨x, H1, I1, rx, a, C, fs, v, ex, ⟨dd, ea, ed⟩, T, hno, l, q⟩ := hh
  subst ex
  obtain rfl : u = Value.ref a := rx
  obtain ⟨oe, vs, ha, hc, hdi, hd⟩ := exv_at I1.hok ea
  have hx : ObjOk X.prog X.w H1 s1.heap dd (.xd fs) := I1.hok dd _ ed
  obtain ⟨mA, hns, hr⟩ := hx
  obtain ⟨od, ho, hl⟩ := lookIn_ns hns
  obtain ⟨u, hu, ru⟩ := RelO.some_of (v := v) (o := mA n) (by rw [← l]; exact hr n)
  have J : PySem.W.InstAt s1.heap a oe C (some od) := ⟨ha, hc, by unfold PySem.W.notCls; rw [hd] <;> rfl, by rw [hdi]; exact ho⟩
  exact HandSPX.exc_get I1.kIn J T.ga T.gg T.exC (PySem.W.findObj_own T.hdC hno rfl (by rw [hl, hu])) (handed_of ru) ⟨v, H1, I1.tok _, ru, q⟩
/-- an error, whatever it keeps -/
def ErrO (H : Hp) (a C : Addr) : Prop := ∃ d, H a = some (exv a C d) ∧ ∀ dx, d = some dx → ∃ fs, H dx = some (.xd fs)
theorem ErrAt.o {H : Hp} {a C : Addr} {fs : List (Str × V)} (e : ErrAt H a C fs) : ErrO H a C := by
  obtain ⟨dx, h1, h2⟩ := e
  exact ⟨_, h1, fun d e => by cases e; exact ⟨fs, h2⟩⟩
theorem ErrO.inst {a C : Addr} (I : Inv X pins σ H s) (e : ErrO H a C) : ∃ ox od, InstAt s.heap a ox C od := by
  obtain ⟨d, ea, hd'⟩ := e
  obtain ⟨oe, vs, ha, hc, hdi, hd⟩ := exv_at I.hok ea
  cases d with
  | none => exact ⟨oe, none, ha, hc, by unfold PySem.W.notCls; rw [hd] <;> rfl, by rw [hdi]; trivial⟩
  | some dx =>
    obtain ⟨fs, ed⟩ := hd' dx rfl
    have hx : ObjOk X.prog X.w H s.heap dx (.xd fs) := I.hok dx _ ed
    obtain ⟨mA, hns, hr⟩ := hx
    obtain ⟨od, ho, hl⟩ := lookIn_ns hns
    exact ⟨oe, some od, ha, hc, by unfold PySem.W.notCls; rw [hd] <;> rfl, by rw [hdi]; exact ho⟩
/-- isinstance(e, c), e an error -/
def rIsV (K : Frag) : List V → Hp → VK → Prop := fun xs H Q => ∃ (a C : Addr) (c : V) (cv : Value) (b : Bool), xs = [.ref a, c] ∧ ErrO H a C ∧ ExcC K C ∧ ClsV c cv ∧ kitOne K (.ref C) cv = some b ∧ Q (.bl b) H
theorem call_isV : CallR X (.builtin "isinstance") (rIsV X.K) := by
  intro pins s σ H xs us Q I r h
  obtain ⟨a, C, c, cv, b, rfl, eo, T, hcv, e, q⟩ := h
  obtain ⟨u1, u2, rfl, r1, r2⟩ := vals2 r
  cases (show u1 = Value.ref a from r1)
  have e2 := hcv.eq r2
  subst e2
  obtain ⟨ox, od, J⟩ := eo.inst I
  have hcl : (clsIn X.K C).isSome = true := by obtain ⟨cd, hc, _⟩ := any_some T.hd; rw [hc]; rfl
  exact PySem.W.kia_one (kitx_exc hcl T.hg T.hk T.hs T.ha T.hn T.ht T.hm) I.kIn J e (fun z => nomatch z) fun tk => ⟨.bl b, H, I.tok tk, rfl, q⟩
/-- isinstance(e, (c, ..)), e an error -/
def rIsVT (K : Frag) : List V → Hp → VK → Prop := fun xs H Q => ∃ (a C tp : Addr) (cs : List V) (us : List Value) (b : Bool), xs = [.ref a, .ref tp] ∧ ErrO H a C ∧ ExcC K C ∧ H tp = some (.tup cs) ∧ Paired ClsV cs us ∧ kitAny K (.ref C) us = some b ∧ Q (.bl b) H
theorem call_isVT : CallR X (.builtin "isinstance") (rIsVT X.K) := by
  intro pins s σ H xs us Q I r h
  obtain ⟨a, C, tp, cs, ws, b, rfl, eo, T, hT, k, e, q⟩ := h
  obtain ⟨u1, u2, rfl, r1, r2⟩ := vals2 r
  cases (show u1 = Value.ref a from r1)
  cases (show u2 = Value.ref tp from r2)
  obtain ⟨ox, od, J⟩ := eo.inst I
  have hcl : (clsIn X.K C).isSome = true := by obtain ⟨cd, hc, _⟩ := any_some T.hd; rw [hc]; rfl
  obtain ⟨_, its, rv, o, h1, h2, n, h3⟩ := (show ObjOk X.prog X.w H s.heap tp (.tup cs) from I.hok tp _ hT)
  have e3 := ClsV.all k rv
  subst e3
  obtain ⟨oc, od', dt, sl⟩ := o
  simp only at h2 h3
  subst h2 h3
  exact PySem.W.kia_tup (kitx_exc hcl T.hg T.hk T.hs T.ha T.hn T.ht T.hm) I.kIn J h1 e (fun z => nomatch z) fun tk => ⟨.bl b, H, I.tok tk, rfl, q⟩
end
/-! ### try: body, except x as n: suite, the error kept behind the suite -/
def wKeep (K : Frag) (c : Value) (i : Nat) (ts : Addr → Value → Option Addr → TS) (Wout : WX) (D : Ends) : WX := fun cls d σ H =>
  ∃ b, exmOne K cls c = some b ∧ (b = true → ∃ C, cls = .ref C ∧ ∀ a, H a = none → ts a cls d { nx := fun σ' H' => H' a = none ∧ D.nx (σ'.set i none) (upd H' a (exv a C d)), rt := D.rt, bk := fun σ' H' => D.bk (σ'.set i none) H', ct := fun σ' H' => D.ct (σ'.set i none) H' } (σ.set i (some (.ref a))) H) ∧
    (b = false → Wout cls d σ H)
section
variable {X : Cx} {x n : Str} {c : Value} {i : Nat} {body suite : List Stmt} {b₀ : Stmt} {np pos pos' : Pos} {tb : WX → TS} {ts : Addr → Value → Option Addr → TS} {Wout : WX}
theorem unsuiteK {pins : List (Addr × Obj)} {σ : L2.St} {H : Hp} {s : Shared} {a : Addr} {q : Addr × Obj} (I : Inv (X.suite a (q :: (X.pn ++ pins))) [] σ H s) (ok : X.Ok) : Inv X (q :: pins) σ H s :=
  ⟨ok, I.os, I.bare, I.base, I.loc, I.cell, I.free, I.freeC, fun p hp => I.pin p (by
    rw [List.append_nil]
    show p ∈ q :: (X.pn ++ pins)
    rcases List.mem_append.mp hp with h | h
    · exact List.mem_cons_of_mem _ (List.mem_append_left _ h)
    · rcases List.mem_cons.mp h with e | h
      · rw [e]; exact List.mem_cons_self
      · exact List.mem_cons_of_mem _ (List.mem_append_right _ h)), I.hok, I.len⟩
theorem ps_try_keep (hs : X.stack = X.env :: X.outer) (hf : X.env.frame = some X.env.locals) (hex : X.ex = []) (hN : X.N.Nodup) (hi : X.N[i]? = some n) (hln : X.env.kindOf n = some .local) (hc : Names X x c) (tk : Takes X Wout)
    (hb : ∀ (W : WX) (pn : List (Addr × Obj)) (xe : Value → Shared → Prop), Takes (X.tr pn xe) W → PassesOwn (model X.prog X.w) X.A X.env xe → PSs (X.tr pn xe) body (tb W))
    (hsu : ∀ (a : Addr) (oe : Obj) (cls : Value) (d : Option Addr) (pn : List (Addr × Obj)), Zc cls d oe → (∃ vs, oe.data = .fields vs) → PSs (X.suite a ((a, oe) :: pn)) (b₀ :: suite) (ts a cls d)) :
    PS X (.Try body [.ExceptHandler (some (.Name x np)) (some n) (b₀ :: suite) pos'] [] [] pos) (fun D σ H => tb (wKeep X.K c i ts Wout D) D σ H) := by
  refine ⟨fun pins s σ H D I h => ?_⟩
  have ok := I.ok
  have hfr : X.A.frames = some (X.env :: X.outer) := by rw [ok.frames, hs]
  have hloc : Loc X.env.scope n := .inl hln
  refine wpAny_Try_except ?_
  refine wpAny_mono ((hb (wKeep X.K c i ts Wout D) (X.pn ++ pins) (fun e s₁ => wpAny (model X.prog X.w) X.A (noteFrame e X.env) (fun _ s₂ => wpAny (model X.prog X.w) X.A (setFlight e none) (fun _ s₃ =>
    wpAny (model X.prog X.w) X.A (handleBy e X.env [.ExceptHandler (some (.Name x np)) (some n) (b₀ :: suite) pos']) (SP X pins D) X.xe s₃) X.xe s₂) X.xe s₁) (fun u s' xx => ?_) PassesOwn.looking).run [] s σ H D (I.toTry _) h) (fun f s1 hsp => ?_) (fun e s1 he => he)
  · -- the catch
    obtain ⟨a, B, sI, pins', σ', H', cls, d, rfl, J', nb, up, sky, na, os, ag, b, hb1, hyes, hno⟩ := xx
    have J : Inv X pins σ' H' sI := J'.ofTry ok
    have sky' : Sky B (X.env :: X.outer) a (Zc cls d) X.env.locals s'.heap := by rw [← hs]; exact sky
    show wpAny (model X.prog X.w) X.A (noteFrame (.ref a) X.env) _ _ _
    refine Sky.land Zc.steady hfr hf sky' fun h3 fl3 up3 => ?_
    have J3 : Inv X pins σ' H' { s' with heap := h3 } := J.landed nb fl3.1 (up.trans up3) os ag
    have fl0 := fl3
    obtain ⟨oe3, vs3, he3, hz3, hd3⟩ := fl3.there
    have notFr : ∀ {h : Heap} {o : Obj} {vs : Array Value}, h.FunFrames B (X.env :: X.outer) → h.get? a = some o → o.data = .fields vs → a ∉ frs (X.env :: X.outer) := fun {h o vs} ff e dd hm => by
      obtain ⟨_, o', e', hnf⟩ := ff.mem hm
      rw [e] at e'; cases e'
      exact hnf _ dd
    have nfr := notFr fl3.2.2.1 he3 hd3
    have nL : a ≠ X.env.locals := fun z => nfr (List.mem_filterMap.mpr ⟨X.env, List.mem_cons_self, by rw [hf, z]⟩)
    have nF : a ∉ X.fs := fun hm => by
      obtain ⟨e, he, q⟩ := List.mem_filterMap.mp hm
      exact nfr (List.mem_filterMap.mpr ⟨e, List.mem_cons_of_mem _ he, q⟩)
    have nI : sI.heap.get? a = none := by
      cases q : sI.heap.get? a with
      | none => rfl
      | some o =>
        have z := nb a o q (by rw [hs]; exact nfr)
        rw [fl0.2.1] at z
        cases z
    have n0 : X.s_0.heap.get? a = none := by
      cases q : X.s_0.heap.get? a with
      | none => rfl
      | some o =>
        obtain ⟨o', z⟩ := J.base.there a o q (by rw [hex]; simp)
        rw [nI] at z
        cases z
    have np' : ∀ p ∈ X.pn ++ pins, p.1 ≠ a := fun p hp z => by
      have q := (J.pin p hp).1
      rw [z, nI] at q
      cases q
    have S3 := J3.suite he3 hd3 na nL nF
    refine wpAny_handleBy_cons (codeAny_handlers_test ?_) (by intro q; cases q)
    have LT : PySem.W.Looks (model X.prog X.w) h3 (typeOf (.ref a)) cls := fun A Q E s k q => wpAny_typeOf_ref (k _ _ he3) (by rw [hz3.1]; exact q)
    have LM := PySem.W.exm_one (M := model X.prog X.w) (J3.kIn) LT hb1
    have test : ∀ {Q : Value → Shared → Prop} {E : Value → Shared → Prop}, Q c { s' with heap := h3 } → wpAny (model X.prog X.w) (X.A.mark (some (.ref a))) (eval (.Name x np) X.env) Q E { s' with heap := h3 } := fun {Q E} q => by
      obtain ⟨hg, hdbg, hm | ⟨hm, hv, hnn⟩⟩ := hc
      · exact ld_glob (X := X.suite a ((a, oe3) :: (X.pn ++ pins))) S3 hg hm q hdbg
      · exact ld_blt (X := X.suite a ((a, oe3) :: (X.pn ++ pins))) S3 hg hm hv q hnn hdbg
    refine test (LM.here ?_)
    cases b with
    | true =>
      obtain ⟨C, rfl, hyes⟩ := hyes rfl
      refine codeAny_handlers_suite_as ?_
      refine HandSPX.lands_againZ fl3 fun h4 fl4 up4 => ?_
      have J4 : Inv X pins σ' H' { s' with heap := h4 } := J.landed nb fl4.1 ((up.trans up3).trans up4) os ag
      obtain ⟨oe4, vs4, he4, hz4, hd4⟩ := fl4.there
      have S4 := J4.suite he4 hd4 na nL nF
      refine store_ok (X := X.suite a ((a, oe4) :: (X.pn ++ pins))) (v := .ref a) S4 hN hi hloc rfl (fun s5 S5 => ?_) (.inr hln)
      refine wpAny_mono ((hsu a oe4 (.ref C) d (X.pn ++ pins) hz4 ⟨_, hd4⟩).run [] s5 _ H' _ S5 (hyes a na)) (fun f s6 hsp => ?_) (fun _ _ z => False.elim z)
      have end_ : ∀ {σ6 : L2.St} {H6 : Hp} {Q : Shared → Prop}, Inv (X.suite a ((a, oe4) :: (X.pn ++ pins))) [] σ6 H6 s6 → (∀ s7, Inv X pins (σ6.set i none) H6 s7 → Q s7) →
          wpAny (model X.prog X.w) X.A (do bindName X.env n .none; unbindBehindTheSuite X.env n pos') (fun _ s7 => Q s7) X.xe s6 := fun {σ6 H6 Q} S6 hq => gone_ok (S6.unsuite ok) hN hi hln hq
      cases f with
      | next =>
        obtain ⟨σ6, H6, S6, na6, q6⟩ := hsp
        refine gone_ok (unsuiteK S6 ok) hN hi hln fun s7 J7 => ?_
        have pa := (J7.pin (a, oe4) (List.mem_append_right _ List.mem_cons_self)).1
        exact ⟨_, _, track J7 n0 np' hd4 (exv_ok pa hz4.1 hz4.2 hd4), q6⟩
      | brk =>
        obtain ⟨σ6, H6, S6, q6⟩ := hsp
        exact end_ S6 fun s7 J7 => ⟨_, _, J7, q6⟩
      | cont =>
        obtain ⟨σ6, H6, S6, q6⟩ := hsp
        exact end_ S6 fun s7 J7 => ⟨_, _, J7, q6⟩
      | ret u =>
        obtain ⟨v6, σ6, H6, S6, r6, q6⟩ := hsp
        exact end_ S6 fun s7 J7 => ⟨_, _, _, J7, r6, q6⟩
    | false =>
      show wpAny _ X.A (handleBy (.ref a) X.env []) _ _ _
      refine wpAny_handleBy_nil ?_
      obtain ⟨k1, k2, k3, oe, vs, T, oT, ts', he, hz, hd, h1, hr⟩ := id fl3
      unfold PySem.passOn
      refine wpAny_bind (wpAny_field he hd h1 ?_)
      rw [if_neg (show ¬ ((Value.ref T == Value.none) = true) from by simp)]
      have fin : wpAny (model X.prog X.w) X.A (setFlight (.ref a) X.env.frame) (fun _ s4 => wpAny (model X.prog X.w) X.A (throw (.ref a) : Sem Flow) (SP X pins D) X.xe s4) X.xe { s' with heap := h3 } := by
        rw [hf]
        refine HandSPX.setFlight_upZ fl3 fun h4 hh4 up4 => wpAny_throw (tk _ _ ?_)
        exact ⟨a, B, sI, pins, σ', H', cls, d, rfl, J, nb, (up.trans up3).trans up4, .inr (.inr (by rw [hs]; exact hh4)), na, os, ag, hno rfl⟩
      first
        | exact wpAny_bind (wpAny_pure (wpAny_bind fin))
        | exact wpAny_bind fin
  · cases f with
    | next =>
      obtain ⟨σ', H', J', q⟩ := hsp
      exact wpAny_execs_nil ⟨σ', H', J'.ofTry ok, q⟩
    | brk =>
      obtain ⟨σ', H', J', q⟩ := hsp
      exact ⟨σ', H', J'.ofTry ok, q⟩
    | cont =>
      obtain ⟨σ', H', J', q⟩ := hsp
      exact ⟨σ', H', J'.ofTry ok, q⟩
    | ret u =>
      obtain ⟨v, σ', H', J', r, q⟩ := hsp
      exact ⟨v, σ', H', J'.ofTry ok, r, q⟩
end
end Ol

namespace Ol
open PySem PySem.W PySem.Spec PySem.Calls PyProof.Rows L2
section
variable {P : Program} {w : World} {K : Frag} {mg : Str → Option Value} {base : Heap} {N ps ps2 : List Str} {x qual : Str} {st : Stmt} {f f2 D : Addr} {fd fd2 : FuncData} {k k2 : Nat} {sp sp2 : Sp} {p0 p1 p2 p3 p4 : Pos} {e : Expr} {es : List Expr} {ar : Arg}
/-- what a class says of super().__init__ in a method of its base D -/
structure SupO (K : Frag) (C D f2 : Addr) : Prop where
  mro : mroIn K C (.ref D) = some true
  sup : ks_superIn K C D "__init__" = some (some (.ref f2))
/-- an __init__ that is super().__init__(..), an own one -/
theorem FunS.okO (F : FunS P K x qual st f fd D) (S : SupScope N ps (defScope st)) (hb : defBody st = [.Expr (.Call (.Attribute (.Call (.Name "super" p0) [] [] p1) "__init__" p2) (e :: es) [] p3) p4]) (hp : ((defArgs st).posonlyargs ++ (defArgs st).args).head? = some ar) (hn : N[0]? = some ar.arg) (hka : (defScope st).names.lookup ar.arg = some .local)
    (hms : mg "super" = none) (hop : nsIn K cStatics "thirdparty.any" = some none) (len : ∀ vs H Q E, sp vs H Q E → vs.length = ps.length)
    (F2 : FnOk P w K mg base (L2.CX P w) k2 f2 fd2 ps2 sp2) (hk2 : k2 ≤ k) (hb2 : Binds K fd2 ps2 []) (ht2 : isFn K (.ref f2) = true) (hf2 : fnIn K f2 = true)
    (hbody : ∀ (cda cc : Addr) (A : Around) (outer : List Env) (s : Shared) (H : Hp) (vs : List V) (Q : VK) (E : XK), Room k (A.deeper (ksEnv qual (defScope st) s.heap.objs.size f (.ref cda) cc)) → sp vs H Q E →
      ∃ (a C dx : Addr) (fs : List (Str × V)) (ta : TA), (L2.start N vs)[0]? = some (some (.ref a)) ∧ SupO K C D f2 ∧ H a = some (.ins C dx fs) ∧ PA (cxS (L2.CX P w) P w K mg base N qual (defScope st) f (.ref cda) cc A outer s H E) (e :: es) ta ∧
        ta (L2.start N vs) H fun ws H1 => sp2 (.ref a :: ws) H1 (fun _ H2 => Q .non H2) E)
    (he : ∀ env : Env, starEach (e :: es) env = (false, eval e env) :: starEach es env := by intro _; rfl) (hpl : ∀ env : Env, (backTo p3 (starEach es env)).any (·.1) = false := by intro _; rfl)
    (hev : ∀ (env : Env), ∃ pl : Sem Bool, eval (.Call (.Attribute (.Call (.Name "super" p0) [] [] p1) "__init__" p2) (e :: es) [] p3) env = (do
      let ov ← attributeBase (.Call (.Name "super" p0) [] [] p1) "__init__" env (eval (.Call (.Name "super" p0) [] [] p1) env)
      standAt p2.atName
      let (f, first) ← holding [ov] (getMethod ov "__init__" pl)
      callWith p3 f first (backTo p3 (starEach (e :: es) env)) []) := by intro _; exact ⟨_, rfl⟩)
    (hsw : ∀ env : Env, swapsWith (.Call (.Attribute (.Call (.Name "super" p0) [] [] p1) "__init__" p2) (e :: es) [] p3) none p4.line env = pure false := by intro _; rfl) : FnOk P w K mg base (L2.CX P w) (k + 1) f fd ps sp := by
  obtain ⟨oc, od, kV, doc, pm, an, cda, ct, osl, cc, rfl, lk, hcd, ⟨cl, cld, csl, hcell⟩, ccl, cdd, ccs, cvs, file, tf, hcode, hvs, hfile⟩ := F.ex
  obtain ⟨cdD, hD⟩ := F.cls
  refine ⟨len, fun A outer s H args us vs Q E hr e0 hbd r hsp => ?_⟩
  have hk : ∀ b o, base.get? b = some o → s.heap.get? b = some o := fun b o e => (e0.bs b o e).1
  have KX := e0.mod.kin.keeps hk
  have hl := len _ _ _ _ hsp
  refine ks_codeAny_call_defAt hr.depth (KX _ _ lk) rfl (e0.mod.nolimit.keeps hk) (codeRec_of KX hcd) rfl hbd S.nocell (fun y hy => S.par y.1 (List.of_mem_zip hy).1) (fun h₀ hns hk0 => ?_) S.co S.gen S.kind
  have I : Inv (cxS (L2.CX P w) P w K mg base N qual (defScope st) f (.ref cda) cc A outer s H E) [] (L2.start N vs) H { s with heap := h₀, toks := s.toks + (ps.zip us).length } := inv_startS S hr.hd e0 hl r hcell hns hk0
  have hr' := hr.deeper (ksEnv qual (defScope st) s.heap.objs.size f (.ref cda) cc)
  obtain ⟨a, C, dx, fs, ta, h0, SO, ea, ha, hta⟩ := hbody cda cc A outer s H vs Q E hr' hsp
  show _root_.PySem.wpAt (model P w) (A.deeper (ksEnv qual (defScope st) s.heap.objs.size f (.ref cda) cc)) (.func (defBody st) (ksEnv qual (defScope st) s.heap.objs.size f (.ref cda) cc)) (execs (defBody st) (ksEnv qual (defScope st) s.heap.objs.size f (.ref cda) cc)) _ _ _
  generalize hbb : defBody st = bb
  rw [hbb] at hb
  subst hb
  obtain ⟨pl, hev'⟩ := hev (ksEnv qual (defScope st) s.heap.objs.size f (.ref cda) cc)
  refine ks_wpAt_execs_cons (ks_wpAt_Expr_any (ks_wpAt_MethodCall (pl := pl) ?_ hev') (hin S.kind) (hsw _))
  obtain ⟨mA, O, _⟩ := ins_get I.hok ea
  obtain ⟨od', J, _⟩ := O.look
  refine sup_node I S lk hp hcode hvs hfile hcell hD SO.mro hms (by decide) F.top hn hka h0 J fun h1 e1 k1 => ?_
  have I1 := I.kept (t' := s.toks + (ps.zip us).length) k1
  obtain ⟨mA1, O1, _⟩ := ins_get I1.hok ea
  obtain ⟨od1, J1, _⟩ := O1.look
  have X1 : K.In h1 := I1.kIn
  obtain ⟨of, hof, hofc⟩ : ∃ of, h1.get? f2 = some of ∧ of.cls = .type "function" := by
    have ht' : (K.lookup f2).map (·.cls) = some (.type "function") := beq_iff_eq.mp ht2
    cases z : K.lookup f2 with
    | none => rw [z] at ht'; cases ht'
    | some of => rw [z] at ht'; exact ⟨of, X1 _ _ z, Option.some.inj ht'⟩
  cases hc : clsIn K C with
  | none => have hm := SO.sup; unfold ks_superIn at hm; rw [hc] at hm; cases hm
  | some cd =>
    have hm := SO.sup
    unfold ks_superIn at hm
    rw [hc] at hm
    refine ks_wpAny_getMethod_super e1 (looks_opaque X1 hop) (l₀ := cd.mro) (fun A Q E s k q => wpAny_bind ((looks_clsIn X1 hc) A _ E s k (wpAny_pure q))) rfl X1 hm hof hofc (ks_ne X1 J1 hc) (by decide) ?_
    have I2 := ClX.met_new (g := f2) (C := a) I1
    have hq : base.get? h1.objs.size = none := by
      cases z : base.get? h1.objs.size with
      | none => rfl
      | some o =>
        have z1 := Heap.lt_size z
        have z2 := e0.bsz
        have z3 := I1.sz
        exact absurd (Nat.lt_of_lt_of_le z1 (Nat.le_trans z2 z3)) (Nat.lt_irrefl _)
    dsimp only
    refine ClX.callwith_cm (X := cxS (L2.CX P w) P w K mg base N qual (defScope st) f (.ref cda) cc A outer s H E) I2 hq hf2 (thn (ha.run p3 _ _ _ H _ I2 hta) fun ws s3 ⟨zs, H1, I3, rz, hsp2⟩ => ⟨⟨ClX.pin_at I3, I3.kIn⟩, ?_⟩) (he _) (hpl _)
    have hl2 : (Value.ref a :: ws).length = ps2.length := by rw [List.length_cons, ← Paired.length rz, ← List.length_cons]; exact F2.len _ _ _ _ hsp2
    have hb' := hb2 s3 (.ref a :: ws) I3.kIn (by rw [List.append_nil]; exact hl2)
    rw [List.append_nil] at hb'
    refine wpAny_call (method_call (ClX.pin_at I3) (codeAny_mono (F2.run _ _ s3 H1 ⟨.ref a :: ws, []⟩ (.ref a :: ws) (.ref a :: zs) _ E (hr'.mono hk2) I3.env0 hb' (.cons rfl rz) hsp2) fun r s' hq => ?_))
    cases r with
    | error e => exact passes_call (takes_of rfl rfl rfl rfl) (fun _ _ _ _ h => h) _ _ H1 s3 e s' I3 hq
    | ok fl =>
      cases fl with
      | ret u =>
        obtain ⟨v, H2, J2, rv, q⟩ := I3.after hq
        refine wpAt_of_wpAny (wpAny_execs_nil ?_)
        exact ⟨.non, H2, J2.os, J2.bare, J2.base, J2.hok, rfl, q⟩
      | next => exact False.elim hq
      | brk => exact False.elim hq
      | cont => exact False.elim hq
end
end Ol

namespace Ol
open PySem PySem.W PySem.Spec PySem.Calls PyProof.Rows L2
/-! ### the __init__ of errors -/
def spErr1 (C : Addr) (f : Str) : Sp := fun vs H Q _ => ∃ (a : Addr) (v : V), vs = [.ref a, v] ∧ H a = some (exo a C none) ∧ ∀ dx, H dx = none → dx ≠ a → Q .non (upd (upd H dx (exd dx [(f, v)])) a (exo a C (some dx)))
def spErr2 (C : Addr) (f g : Str) : Sp := fun vs H Q _ => ∃ (a : Addr) (v u : V), vs = [.ref a, v, u] ∧ H a = some (exo a C none) ∧ ∀ dx, H dx = none → dx ≠ a → Q .non (upd (upd (upd H dx (exd dx [(f, v)])) a (exo a C (some dx))) dx (exd dx [(g, u), (f, v)]))
section
variable {P : Program} {w : World} {K : Frag} {mg : Str → Option Value} {base : Heap} {qual x y : Str} {st : Stmt} {f C : Addr} {fd : FuncData} {fld gld : Str} {p0 p1 p2 p3 p4 pc q1 q2 q3 q4 r1 r2 r3 r4 : Pos} {msg : Str} {n : Nat} {ar : Arg}
theorem err1_ok (F : FunS P K "__init__" qual st f fd C) (S : SupScope ["self", x] ["self", x] (defScope st))
    (hb : defBody st = [.Expr (.Call (.Attribute (.Call (.Name "super" p0) [] [] p1) "__init__" p2) [.Constant (.str msg) n pc] [] p3) p4, .Assign [.Attribute (.Name "self" q1) fld q2] (.Name x q3) q4])
    (hp : ((defArgs st).posonlyargs ++ (defArgs st).args).head? = some ar) (hn : ar.arg = "self") (hms : mg "super" = none) (hop : nsIn K cStatics "thirdparty.any" = some none) (SE : SupE K C C) (hno : findIn K (.ref C) fld = some none)
    (hdx : (x == ("__debug__" : Str)) = false := by decide) (hcx : (x == ("__classdict__" : Str)) = false := by decide)
    (hev : ∀ (env : Env), ∃ pl : Sem Bool, eval (.Call (.Attribute (.Call (.Name "super" p0) [] [] p1) "__init__" p2) [.Constant (.str msg) n pc] [] p3) env = (do
      let ov ← attributeBase (.Call (.Name "super" p0) [] [] p1) "__init__" env (eval (.Call (.Name "super" p0) [] [] p1) env)
      standAt p2.atName
      let (f, first) ← holding [ov] (getMethod ov "__init__" pl)
      callWith p3 f first (backTo p3 (starEach [.Constant (.str msg) n pc] env)) []) := by intro _; exact ⟨_, rfl⟩) : FnOk P w K mg base CX0 1 f fd ["self", x] (spErr1 C fld) := by
  have l0 := S.par "self" (by simp)
  have l1 := S.par x (by simp)
  refine FunS.okE F S hb hp (by rw [hn]; rfl) (by rw [hn]; exact l0) hms hop (fun vs H Q E h => by obtain ⟨a, v, rfl, _⟩ := h; rfl) (fun cda cc A outer s H vs Q E hr h => ?_) (hev := hev)
  obtain ⟨a, v, rfl, ea, q⟩ := h
  refine ⟨a, C, _, _, rfl, SE, ea, pa_cons pe_str pa_nil, pss_one (ps_ost (pe_var (i := 0) rfl (.inl l0)) (pe_var (i := 1) rfl (.inl l1) hdx hcx)), ?_⟩
  refine ⟨Nat.le_of_ble_eq_true rfl, ea, ?_⟩
  refine ⟨v, rfl, .ref a, rfl, a, C, rfl, SE.oex, hno, .inl ⟨ea, fun dx h1 h2 => ?_⟩⟩
  exact q dx h1 h2
theorem err2_ok (F : FunS P K "__init__" qual st f fd C) (S : SupScope ["self", x, y] ["self", x, y] (defScope st))
    (hb : defBody st = [.Expr (.Call (.Attribute (.Call (.Name "super" p0) [] [] p1) "__init__" p2) [.Constant (.str msg) n pc] [] p3) p4, .Assign [.Attribute (.Name "self" q1) fld q2] (.Name x q3) q4, .Assign [.Attribute (.Name "self" r1) gld r2] (.Name y r3) r4])
    (hp : ((defArgs st).posonlyargs ++ (defArgs st).args).head? = some ar) (hn : ar.arg = "self") (hms : mg "super" = none) (hop : nsIn K cStatics "thirdparty.any" = some none) (SE : SupE K C C) (hno : findIn K (.ref C) fld = some none) (hno2 : findIn K (.ref C) gld = some none)
    (hdx : (x == ("__debug__" : Str)) = false := by decide) (hcx : (x == ("__classdict__" : Str)) = false := by decide) (hdy : (y == ("__debug__" : Str)) = false := by decide) (hcy : (y == ("__classdict__" : Str)) = false := by decide)
    (hev : ∀ (env : Env), ∃ pl : Sem Bool, eval (.Call (.Attribute (.Call (.Name "super" p0) [] [] p1) "__init__" p2) [.Constant (.str msg) n pc] [] p3) env = (do
      let ov ← attributeBase (.Call (.Name "super" p0) [] [] p1) "__init__" env (eval (.Call (.Name "super" p0) [] [] p1) env)
      standAt p2.atName
      let (f, first) ← holding [ov] (getMethod ov "__init__" pl)
      callWith p3 f first (backTo p3 (starEach [.Constant (.str msg) n pc] env)) []) := by intro _; exact ⟨_, rfl⟩) : FnOk P w K mg base CX0 1 f fd ["self", x, y] (spErr2 C fld gld) := by
  have l0 := S.par "self" (by simp)
  have l1 := S.par x (by simp)
  have l2 := S.par y (by simp)
  refine FunS.okE F S hb hp (by rw [hn]; rfl) (by rw [hn]; exact l0) hms hop (fun vs H Q E h => by obtain ⟨a, v, u, rfl, _⟩ := h; rfl) (fun cda cc A outer s H vs Q E hr h => ?_) (hev := hev)
  obtain ⟨a, v, u, rfl, ea, q⟩ := h
  refine ⟨a, C, _, _, rfl, SE, ea, pa_cons pe_str pa_nil, pss_cons (ps_ost (pe_var (i := 0) rfl (.inl l0)) (pe_var (i := 1) rfl (.inl l1) hdx hcx)) (pss_one (ps_ost (pe_var (i := 0) rfl (.inl l0)) (pe_var (i := 2) rfl (.inl l2) hdy hcy))), ?_⟩
  refine ⟨Nat.le_of_ble_eq_true rfl, ea, ?_⟩
  refine ⟨v, rfl, .ref a, rfl, a, C, rfl, SE.oex, hno, .inl ⟨ea, fun dx h1 h2 => ?_⟩⟩
  refine ⟨u, rfl, .ref a, rfl, a, C, rfl, SE.oex, hno2, .inr ⟨dx, [(fld, v)], upd_same, by rw [upd_ne h2]; exact upd_same, Nat.le_of_ble_eq_true rfl, ?_⟩⟩
  exact q dx h1 h2
end
/-! ### what a raise leaves -/
/-- an error of the class at C with the fields fs is let out -/
def Rz (C : Addr) (fs : List (Str × V)) (H : Hp) (E : XK) : Prop := ∀ d H', H d = none → Same H H' → H' d = some (.xd fs) → E (.ref C) (some d) H'
section
variable {H : Hp} {E E' : XK} {C : Addr} {f g : Str} {v u : V}
theorem raise1 (r : Rz C [(f, v)] H E) : [v].length ≤ 1000 ∧ ∀ a, H a = none → spErr1 C f (.ref a :: ([v] ++ [])) (upd H a (exo a C none))
    (fun z H2 => z = .non ∧ ∃ (d : Addr) (fs : List (Str × V)), H2 a = some (exo a C (some d)) ∧ H2 d = some (exd d fs) ∧ H d = none ∧ E (.ref C) (some d) (upd (del H2 a) d (.xd fs))) E' := by
  refine ⟨Nat.le_of_ble_eq_true rfl, fun a ha => ⟨a, v, rfl, upd_same, fun dx hdx hne => ⟨rfl, dx, _, upd_same, by rw [upd_ne hne]; exact upd_same, by rw [upd_ne hne] at hdx; exact hdx, ?_⟩⟩⟩
  rw [upd_ne hne] at hdx
  refine r dx _ hdx (fun b o e => ?_) upd_same
  rw [upd_ne (ne_of_none e hdx), del_ne (ne_of_none e ha), upd_ne (ne_of_none e ha), upd_ne (ne_of_none e hdx), upd_ne (ne_of_none e ha)]
  exact e
theorem raise2 (r : Rz C [(g, u), (f, v)] H E) : [v, u].length ≤ 1000 ∧ ∀ a, H a = none → spErr2 C f g (.ref a :: ([v, u] ++ [])) (upd H a (exo a C none))
    (fun z H2 => z = .non ∧ ∃ (d : Addr) (fs : List (Str × V)), H2 a = some (exo a C (some d)) ∧ H2 d = some (exd d fs) ∧ H d = none ∧ E (.ref C) (some d) (upd (del H2 a) d (.xd fs))) E' := by
  refine ⟨Nat.le_of_ble_eq_true rfl, fun a ha => ⟨a, v, u, rfl, upd_same, fun dx hdx hne => ⟨rfl, dx, _, by rw [upd_ne (Ne.symm hne)]; exact upd_same, upd_same, by rw [upd_ne hne] at hdx; exact hdx, ?_⟩⟩⟩
  rw [upd_ne hne] at hdx
  refine r dx _ hdx (fun b o e => ?_) upd_same
  rw [upd_ne (ne_of_none e hdx), del_ne (ne_of_none e ha), upd_ne (ne_of_none e hdx), upd_ne (ne_of_none e ha), upd_ne (ne_of_none e hdx), upd_ne (ne_of_none e ha)]
  exact e
end
end Ol

namespace Ol
open PySem PySem.W PySem.Spec PySem.Calls PyProof.Rows L2 LamX
/-! ### defs that make lambdas -/
/-- a def whose code object stands at c -/
structure FunL (K : Frag) (x qual : Str) (st : Stmt) (f : Addr) (fd : FuncData) (c : Addr) : Prop where
  ex : ∃ (oc : Value) (od : Option Addr) (kV doc pm : Value) (an : Option Addr) (ct : Value) (osl : Array (Option Value)),
    fd = fnOf x qual (defArgs st) (defBody st) (defScope st) .none kV doc pm an (.ref c) ct ∧ K.lookup f = some ⟨oc, od, .func fd, osl⟩ ∧ codeIn K (.ref c) qual = true
  kp : keepIn K (.ref f) = true
section
variable {P : Program} {w : World} {K : Frag} {mg : Str → Option Value} {base : Heap} {x qual : Str} {st : Stmt} {f c : Addr} {fd : FuncData} {N ps : List Str} {k : Nat} {sp : Sp}
theorem FunL.fn (F : FunL K x qual st f fd c) : Fun K x qual st f fd := by
  obtain ⟨oc, od, kV, doc, pm, an, ct, osl, rfl, lk, hcd⟩ := F.ex
  exact ⟨⟨oc, od, kV, doc, pm, an, _, ct, osl, rfl, lk, hcd⟩, F.kp⟩
theorem FunL.ok (F : FunL K x qual st f fd c) (S : FnScope N ps (defScope st)) (len : ∀ vs H Q E, sp vs H Q E → vs.length = ps.length)
    (hbody : ∀ (A : Around) (outer : List Env) (s : Shared) (H : Hp) (vs : List V) (Q : VK) (E : XK), Room k (A.deeper (envOfC qual (defScope st) s.heap.objs.size f (.ref c))) → sp vs H Q E →
      ∃ t, PSs (cxOf CX0 P w K mg base N qual (defScope st) f (.ref c) A outer s H E).nox (defBody st) t ∧ t { nx := fun _ H' => Q .non H', rt := Q } (L2.start N vs) H) : FnOk P w K mg base CX0 (k + 1) f fd ps sp := by
  obtain ⟨oc, od, kV, doc, pm, an, ct, osl, rfl, lk, hcd⟩ := F.ex
  refine fn_of lk hcd S len fun A outer s H vs Q E hr hsp => ?_
  obtain ⟨t, h, q⟩ := hbody A outer s H vs Q E hr hsp
  exact ⟨t, h.nox, q⟩
end
section
variable {X : Cx} {T : List (Addr × Str)} {TT : (XK → Hp → VK → Prop) → Hp → VK → Prop} {x a : Str} {g c P : Addr} {k : Nat} {st : Stmt} {fd : FuncData} {Ng : List Str} {params : Arguments} {body : Expr} {scope : Scope} {t : XK → TE} {p lpos pos : Pos}
/-- x(lambda: body) -/
theorem pe_lam (F : Fun X.K x x st g fd) (hb : L2.Binds X.K fd [a] []) (Sg : FnScope Ng [a] (defScope st)) (hG : ∀ cdg, GivesTo X Ng x (defScope st) g cdg (defBody st) a (X.env.qual ++ "<lambda>") TT) (hg : Gl X x) (hm : X.mg x = some (.ref g))
    (TB : TabB X.base X.mg c P) (hcode : X.env.code = .ref c) (hmT : (P, X.env.qual ++ "<lambda>") ∈ T) (hu : ∀ p ∈ T, p.1 = P → p.2 = X.env.qual ++ "<lambda>") (hr : Room (k + 2) X.A) (L : LamS X.env.scope scope)
    (hbody : ∀ (A : Around) (outer : List Env) (s : Shared) (H : Hp) (E : XK) (f c' : Addr), Room k (A.deeper (lamEnv X scope s.heap.objs.size f c')) → PE (lamCx X A outer s H E scope f c') body (t E))
    (hNg : Ng[0]? = some a := by rfl) (hdef : defaultsOf params X.env = ([], []) := by rfl)
    (hbind : ∀ (q : Str) (cl : List (Str × Addr)) (pm cv ctv : Value), bindArgs (PySem.W.kla_fn "<lambda>" q params body scope cl pm cv ctv) ⟨[], []⟩ = pure [] := by intro _ _ _ _ _; rfl)
    (hdb : (x == ("__debug__" : Str)) = false := by decide) (hd : (a == ("__debug__" : Str)) = false := by decide) (hcd : (a == ("__classdict__" : Str)) = false := by decide) :
    PE X (.Call (.Name x p) [.Lambda params body scope lpos] [] pos) (tLam T TT t) := by
  obtain ⟨oc, od, kV, doc, pm, an, cdv, ct, osl, rfl, lk, hcd'⟩ := F.ex
  have hv : Vis (defScope st) a := by
    rcases Sg.par a (by simp) with h | h
    · exact .inl h
    · exact .inr (.inl h)
  exact pe_lamcall hg hm F.kp lk hcd' hb Sg hNg hv (hG cdv) TB hcode hmT hu hr L hdef hbind hbody hdb hd hcd
end
/-! ### facts of errors and of methods with super -/
structure ErrT (K : Frag) (C fI : Addr) : Prop where
  se : SupE K C C
  xf : XfC K C
  ex : ExcC K C
  iC : findIn K (.ref C) "__init__" = some (some (.ref fI))
  tI : typeIn K (.ref fI) = some (.type "function")
theorem FunS.binds {P : Program} {K : Frag} {x qual : Str} {st : Stmt} {f D : Addr} {fd : FuncData} {ps : List Str} (F : FunS P K x qual st f fd D)
    (h : ∀ (kV doc pm : Value) (an : Option Addr) (cdv ct : Value) (cc : Addr) (us : List Value), us.length = ps.length → bindArgs (ksFn x qual (defArgs st) (defBody st) (defScope st) .none kV doc pm an cdv ct cc) ⟨us, []⟩ = pure (ps.zip us)) : L2.Binds K fd ps [] := by
  obtain ⟨oc, od, kV, doc, pm, an, cda, ct, osl, cc, rfl, _⟩ := F.ex
  exact .all (h kV doc pm an _ ct cc)
theorem FunS.kbn {P : Program} {K : Frag} {x qual : Str} {st : Stmt} {f D : Addr} {fd : FuncData} {ps ks : List Str} (F : FunS P K x qual st f fd D) (n : Nat) (is : List Nat)
    (h : ∀ (kV doc pm : Value) (an : Option Addr) (cdv ct : Value) (cc : Addr) (us ws : List Value), us.length = n → ws.length = ks.length → bindArgs (ksFn x qual (defArgs st) (defBody st) (defScope st) .none kV doc pm an cdv ct cc) ⟨us, ks.zip ws⟩ = pure (ps.zip (perm is us ws))) :
    KBn K fd ps n ks (perm is) (perm is) := by
  obtain ⟨oc, od, kV, doc, pm, an, cda, ct, osl, cc, rfl, _⟩ := F.ex
  exact ⟨fun s us ws _ h1 h2 => .of_eq (h kV doc pm an _ ct cc us ws h1 h2), fun r1 r2 => r1.append (vals_pick r2 is)⟩
theorem pe_gs {X : Cx} {x : Str} {z : Str} {pos : Pos} (hg : Gl X x) (h : ∃ t, X.mg x = some (Value.str z t)) (hd : (x == ("__debug__" : Str)) = false := by decide) : PE X (.Name x pos) (tC (.str z)) := by
  obtain ⟨t, h⟩ := h
  exact pe_glob hg h ⟨t, rfl⟩ hd
/-! ### heaps beside the pen and the tables -/
def GoT (p : Addr) (H H' : Hp) : Prop := ∀ b o, b ≠ p → (∀ ps, o ≠ .tbl ps) → H b = some o → H' b = some o
theorem GoT.refl (p : Addr) (H : Hp) : GoT p H H := fun _ _ _ _ h => h
theorem GoT.trans {p : Addr} {H H1 H2 : Hp} (a : GoT p H H1) (b : GoT p H1 H2) : GoT p H H2 := fun c o n t h => b c o n t (a c o n t h)
theorem Go.t {p : Addr} {H H' : Hp} (g : Go p H H') : GoT p H H' := fun b o n _ h => g b o n h
theorem ext_t {p : Addr} {H H' : Hp} (g : ExtN H H') : GoT p H H' := fun b o _ t h => g b o h t
theorem same_t {p : Addr} {H H' : Hp} (g : Same H H') : GoT p H H' := fun b o _ _ h => g b o h
theorem Pen.ext {p : Addr} {H H' : Hp} {n : Nat} (h : Pen p H n) (e : ExtN H H') : Pen p H' n := by
  obtain ⟨l, c, sp, g, h1, h2, h3, h4⟩ := h
  exact ⟨l, c, sp, g, e _ _ h1 (fun _ z => by cases z), h2, e _ _ h3 (fun _ z => by cases z), h4⟩
/-- the tables stand beside the pen -/
theorem Tabs.go {p : Addr} {T : List (Addr × Str)} {H H' : Hp} {n : Nat} (t : Tabs T H) (pen : Pen p H n) (g : Go p H H') : Tabs T H' := fun q hq => by
  obtain ⟨ps, h1, h2, h3⟩ := t q hq
  obtain ⟨l, c, sp, gr, p1, _⟩ := pen
  have ne : ∀ {b : Addr} {o : HO}, H b = some o → (∀ xs, o ≠ .lst xs) → b ≠ p := fun {b o} e n z => by
    rw [z, p1] at e
    exact n _ (Option.some.inj e).symm
  refine ⟨ps, g _ _ (ne h1 (fun _ z => by cases z)) h1, h2, fun pos cv hc => ?_⟩
  obtain ⟨c, e1, e2⟩ := h3 pos cv hc
  exact ⟨c, e1, g _ _ (ne e2 (fun _ z => by cases z)) e2⟩
theorem Tabs.same {T : List (Addr × Str)} {H H' : Hp} (t : Tabs T H) (g : Same H H') : Tabs T H' := t.ext g
/-! ### the end -/
theorem walk_ofTT {l : OpenLaw} {n k : Nat} {q : Program} {loose : List Str} {XP : (Str → Option Value) → Heap → Prop} {YP : World → Heap → Prop} {d : DefRec} {K : Params → Frag} {x : Str}
    (hn : l.most = some n) (hn2 : n ≤ sizeLine) (hdf : d.params.defaults = []) (hr : Room k callerA) (hY : ∀ (w : World) (h : Heap), YP w h → (K w.params).In h)
    (F : ∀ (w : World) (mg : Str → Option Value) (fa : Addr) (h : Heap), YP w h →
      (K w.params).In h → h.Ns mainGlobals mg → mg d.name = some (.ref fa) →
      ∃ (fd : FuncData) (cs : List (Addr × Addr)) (sp : Sp), (∀ p ∈ cs, h.get? p.2 = some { cls := .none, data := .fields #[] }) ∧ (∀ p ∈ cs, (K w.params).lookup p.2 = none) ∧ (∀ p ∈ cs, CodeHd h p.1 p.2) ∧ (∀ (s : Shared) (u : Value), BindsTo s fd ⟨[u], []⟩ [(x, u)]) ∧
        (∀ (H : Hp) (a : Addr) (ns : List Int), ns.length ≤ n → (∀ p ∈ cs, H p.2 = some (.tbl #[])) → SqL (K w.params) H a (ns.map V.int) → sp [.ref a] H (fun v _ => v = .bl true) fun _ _ _ => False) ∧
        ∀ base : Heap, (K w.params).In base → base.Ns mainGlobals mg → (∀ p ∈ cs, TabB base mg p.1 p.2) → FnOk l.prog w (K w.params) mg base CX0 k fa fd [x] sp) :
    WalkO q loose XP YP l.row.toRowW d [] (fun f vs => PySem.call f vs) := by
  refine Att.attach_call hn hdf fun w s₀ s₁ mg mb fa o pm cd doc a vs ns G Y ho hd hcd hmg hobj hints hlen hg => ?_
  have KX := hY w _ Y
  obtain ⟨fd, cs, sp, hT, nT, C, hb, hsp, hF⟩ := F w mg fa _ Y KX G.T.g hmg
  exact law_callTs KX G.T.g G.T.b G.T.builtins G.T.nolimit hg hT nT C G.T.bmain hobj hints (Nat.le_trans hlen hn2) hr hF hb (fun H hH hS => hsp H a ns hlen hH hS) fun H e s' z => z
end Ol

namespace Ol
open PySem PySem.Spec PyProof.Rows L2
/-! ### the pen with its cells told -/
def PenAt (p l : Addr) (H : Hp) (n : Nat) : Prop := ∃ (cells : List Int) (spot great : Int), H p = some (.lst [.ref l, .int spot, .int great]) ∧ l ≠ p ∧ H l = some (.lst (cells.map V.int)) ∧ 0 ≤ spot ∧ spot + n ≤ 4000000 ∧ 0 ≤ great ∧ cells.length ≤ 63
theorem PenAt.pen {p l : Addr} {H : Hp} {n : Nat} (h : PenAt p l H n) : Pen p H n := ⟨l, h⟩
theorem PenAt.le {p l : Addr} {H : Hp} {m n : Nat} (h : PenAt p l H n) (le : m ≤ n) : PenAt p l H m := by
  obtain ⟨c, s, g, h1, h2, h3, h4, h5, h6, h7⟩ := h
  exact ⟨c, s, g, h1, h2, h3, h4, by omega, h6, h7⟩
theorem PenAt.same {p l : Addr} {H H' : Hp} {n : Nat} (h : PenAt p l H n) (s : Same H H') : PenAt p l H' n := by
  obtain ⟨c, sp, g, h1, h2, h3, h4⟩ := h
  exact ⟨c, sp, g, s _ _ h1, h2, s _ _ h3, h4⟩
theorem PenAt.set {p l a : Addr} {H : Hp} {n : Nat} {o : HO} (h : PenAt p l H n) (n1 : a ≠ p) (n2 : a ≠ l) : PenAt p l (upd H a o) n := by
  obtain ⟨c, sp, g, h1, h2, h3, h4⟩ := h
  exact ⟨c, sp, g, by rw [upd_ne (Ne.symm n1)]; exact h1, h2, by rw [upd_ne (Ne.symm n2)]; exact h3, h4⟩
def spDrawL : Sp := fun vs H Q _ => ∃ (p l : Addr) (many : Int) (n : Nat), vs = [.ref p, .int many] ∧ 0 < many ∧ many.natAbs < 2 ^ 250 ∧ PenAt p l H (n + 1) ∧ ∀ (d : Int) (H' : Hp), Go p H H' → PenAt p l H' n → 0 ≤ d → d < many → Q (.int d) H'
theorem fn_weak {P : Program} {w : World} {K : PySem.W.Frag} {mg : Str → Option Value} {base : Heap} {CX : CXT} {k : Nat} {f : Addr} {fd : FuncData} {ps : List Str} {sp sp' : Sp} (F : FnOk P w K mg base CX k f fd ps sp) (h : ∀ vs H Q E, sp' vs H Q E → sp vs H Q E) : FnOk P w K mg base CX k f fd ps sp' :=
  ⟨fun vs H Q E z => F.len _ _ _ _ (h _ _ _ _ z), fun A o s H a u v Q E hr e0 hb r z => F.run A o s H a u v Q E hr e0 hb r (h _ _ _ _ z)⟩
theorem draw_weak {vs : List V} {H : Hp} {Q : VK} {E : XK} (h : spDraw vs H Q E) : spDrawL vs H Q E := by
  obtain ⟨p, many, n, e, h0, h1, ⟨l, pen⟩, q⟩ := h
  exact ⟨p, l, many, n, e, h0, h1, pen, fun d H' g pen' => q d H' g pen'.pen⟩
/-! ### names -/
def letters : Str := "abcdefghijklmnopqrstuvwxyz"
def isLet (c : Nat) : Bool := !(Builtin.Str.occurrences letters ⟨#[c]⟩ 0 letters.length 1).isEmpty
def isName (z : Str) : Bool := decide (1 ≤ z.length ∧ z.length ≤ 8) && z.cps.toList.all isLet
def NoStr (K : PySem.W.Frag) (H : Hp) (x : V) : Prop := ∃ t, TyX K H x t ∧ PySem.W.kitOne K t (.type "str") = some false
def spIsName (K : PySem.W.Frag) : Sp := fun vs H Q _ => ∃ x, vs = [x] ∧ ((∃ z, x = .str z ∧ z.length ≤ 1000 ∧ ∀ H', Same H H' → Q (.bl (isName z)) H') ∨ (NoStr K H x ∧ Q (.bl false) H))
def spNumber (K : PySem.W.Frag) : Sp := fun vs H Q _ => ∃ x, vs = [x] ∧ ((∃ i, x = .int i ∧ Q (.bl (decide (0 ≤ i ∧ i ≤ 1000000000000))) H) ∨ (NoInt K H x ∧ Q (.bl false) H))
section
variable {K : PySem.W.Frag} {σ : L2.St} {H : Hp} {Q : VK} {te ta : TE} {g : TG} {t : TT} {vs : List Nat} {a : Addr}
theorem t_lcS (h : ta σ H fun x H1 => ∃ z, x = .str z ∧ ∀ D, H1 D = none → LcW (Its z) g t te vs σ H1 D Q) : tLc (iStr ta) g t te vs σ H Q := h
/-- one item for each turn, the heap left -/
theorem lc_map {J : L2.It} {n : Nat} {G : Hp → Prop} {Y : Nat → Hp → V → Hp → Prop} (w : Walk J n G Y) {D : Addr} {F xf : Nat → V} (hn : n ≤ 1000) (hy : ∀ i H x H', i < n → Y i H x H' → H' = H ∧ x = xf i) (hG : ∀ l, G (upd H D (.lst l)))
    (ht : ∀ (i : Nat) (R : L2.St → V → Hp → Prop) (l : List V), i < n → (∀ σ2, R σ2 (F i) (upd H D (.lst l))) → g (xf i) (wipe σ vs) (upd H D (.lst l)) fun σ2 H2 => wipe σ2 vs = wipe σ vs ∧ te σ2 H2 (R σ2)) (q : Q (.ref D) (upd H D (.lst ((List.range n).map F)))) : LcW J g tYes te vs σ H D Q := by
  refine lc_it w (Qd := fun H' => Q (.ref D) H') (fun i H' => H' = upd H D (.lst ((List.range i).map F))) rfl (fun i H' _ e => e ▸ hG _) (fun i x H1 H2 hi e y => ?_) fun H' e => e ▸ q
  obtain ⟨e1, e2⟩ := hy i H1 x H2 hi y
  subst e1 e2 e
  refine ht i (fun σ2 y H4 => ∃ acc, H4 D = some (.lst acc) ∧ acc.length < sizeLine ∧ upd H4 D (.lst (acc ++ [y])) = upd H D (.lst ((List.range (i + 1)).map F))) _ hi fun σ2 => ⟨_, upd_same, ?_, ?_⟩
  · rw [List.length_map, List.length_range]
    exact Nat.lt_of_lt_of_le hi (Nat.le_trans hn (by decide))
  · funext b
    by_cases hb : b = D
    · rw [hb, upd_same, upd_same, List.range_succ, List.map_append]
      rfl
    · rw [upd_ne hb, upd_ne hb, upd_ne hb]
theorem map_cps (z : Str) (f : Nat → V) : (List.range z.cps.size).map (fun i => f (z.cps.getD i 0)) = z.cps.toList.map f := by
  apply List.ext_getElem
  · simp
  · intro i h1 h2
    have hi : i < z.cps.size := by simpa using h1
    simp [Array.getD, hi]
theorem lcS_map {z : Str} {D : Addr} {f : Nat → V} (hz : z.length ≤ 1000)
    (ht : ∀ (c : Nat) (R : L2.St → V → Hp → Prop) (l : List V), (∀ σ2, R σ2 (f c) (upd H D (.lst l))) → g (.str ⟨#[c]⟩) (wipe σ vs) (upd H D (.lst l)) fun σ2 H2 => wipe σ2 vs = wipe σ vs ∧ te σ2 H2 (R σ2)) (q : Q (.ref D) (upd H D (.lst (z.cps.toList.map f)))) : LcW (Its z) g tYes te vs σ H D Q := by
  rw [← map_cps] at q
  refine lc_map walk_str (xf := fun i => .str ⟨#[z.cps.getD i 0]⟩) hz (fun i H x H' hi y => ?_) (fun _ => trivial) (fun i R l hi h => ht _ R l h) q
  obtain ⟨e, c, h1, h2⟩ := y
  refine ⟨e, ?_⟩
  rw [h2, Array.getD_eq_getD_getElem?, h1]
  rfl
theorem NoStr.non : NoStr K H .non := ⟨_, .base .non, kit_ty (by decide +kernel)⟩
theorem NoStr.bl (b : Bool) : NoStr K H (.bl b) := ⟨_, .base (.bl b), kit_ty (by decide +kernel)⟩
theorem NoStr.int (i : Int) : NoStr K H (.int i) := ⟨_, .base (.int i), kit_ty (by decide +kernel)⟩
theorem NoStr.lst {xs : List V} (h : H a = some (.lst xs)) : NoStr K H (.ref a) := ⟨_, .base (.lst h), kit_ty (by decide +kernel)⟩
theorem NoStr.tup {xs : List V} (h : H a = some (.tup xs)) : NoStr K H (.ref a) := ⟨_, .base (.tup h), kit_ty (by decide +kernel)⟩
theorem NoStr.dK {kvs : List (Key × V)} (h : H a = some (.dK kvs)) : NoStr K H (.ref a) := ⟨_, .base (.dK h), kit_ty (by decide +kernel)⟩
end
end Ol

namespace Ol
open PySem PySem.Spec PyProof.Rows L2
theorem t_mkO {σ : L2.St} {H : Hp} {C : Addr} {sp : Sp} {dvs : List V} {ta : TA} {Q : XK} (h : ta σ H fun vs H1 => vs.length ≤ 1000 ∧ ∀ a, H1 a = none → sp (.ref a :: (vs ++ dvs)) (upd H1 a (exo a C none))
  (fun v H2 => v = .non ∧ ∃ (d : Addr) (fs : List (Str × V)), H2 a = some (exo a C (some d)) ∧ H2 d = some (exd d fs) ∧ H1 d = none ∧ Q (.ref C) (some d) (upd (del H2 a) d (.xd fs))) (fun _ _ _ => False)) : tMkO C sp dvs ta σ H Q := h
theorem takes_len {X : Cx} {W : WX} (t : Takes X W) : Takes X (fun cls d σ H => σ.length = X.N.length → W cls d σ H) := fun u s' ⟨a, B, sI, pins, σ, H, cls, d, e, I, nb, up, sky, na, os, ag, w⟩ =>
  t u s' ⟨a, B, sI, pins, σ, H, cls, d, e, I, nb, up, sky, na, os, ag, w I.len⟩
theorem r_isN {x : V} {H : Hp} {Q : VK} (h : Q (.bl (decide (x = .non))) H) : (fun x y H (Q : VK) => y = V.non ∧ Q (.bl (decide (x = .non))) H) x .non H Q := ⟨rfl, h⟩
theorem t_fldE {K : PySem.W.Frag} {σ : L2.St} {H : Hp} {Q : VK} {te : TE} {f : Str} (h : te σ H fun x H1 => ∃ (a C : Addr) (fs : List (Str × V)) (v : V), x = .ref a ∧ ErrAt H1 a C fs ∧ XfC K C ∧ PySem.W.findIn K (.ref C) f = some none ∧ fs.lookup f = some v ∧ Q v H1) : tFldE K te f σ H Q := h
/-! ### values in the places of a trip -/
def NameV (K : PySem.W.Frag) (H : Hp) (x : V) (b : Bool) : Prop := (∃ z, x = .str z ∧ z.length ≤ 1000 ∧ isName z = b) ∨ ((∀ H', Same H H' → NoStr K H' x) ∧ b = false)
def NumV (K : PySem.W.Frag) (H : Hp) (x : V) (lo : Int) (b : Bool) : Prop := (∃ i, x = .int i ∧ decide (lo ≤ i ∧ i ≤ 1000000000000) = b) ∨ ((∀ H', Same H H' → NoInt K H' x) ∧ b = false)
section
variable {K : PySem.W.Frag} {H H' : Hp} {x : V} {b : Bool} {lo : Int} {Q : VK} {E : XK}
theorem NameV.same (n : NameV K H x b) (s : Same H H') : NameV K H' x b := by
  rcases n with n | ⟨n, e⟩
  · exact .inl n
  · exact .inr ⟨fun H2 s2 => n H2 (s.trans s2), e⟩
theorem NumV.same (n : NumV K H x lo b) (s : Same H H') : NumV K H' x lo b := by
  rcases n with n | ⟨n, e⟩
  · exact .inl n
  · exact .inr ⟨fun H2 s2 => n H2 (s.trans s2), e⟩
theorem s_name (n : NameV K H x b) (q : ∀ H', Same H H' → Q (.bl b) H') : spIsName K [x] H Q E := by
  rcases n with ⟨z, rfl, hz, rfl⟩ | ⟨n, rfl⟩
  · exact ⟨_, rfl, .inl ⟨z, rfl, hz, q⟩⟩
  · exact ⟨_, rfl, .inr ⟨n H fun _ _ e => e, q H fun _ _ e => e⟩⟩
theorem s_number (n : NumV K H x 0 b) (q : Q (.bl b) H) : spNumber K [x] H Q E := by
  rcases n with ⟨i, rfl, rfl⟩ | ⟨n, rfl⟩
  · exact ⟨_, rfl, .inl ⟨i, rfl, q⟩⟩
  · exact ⟨_, rfl, .inr ⟨n H fun _ _ e => e, q⟩⟩
theorem s_between (n : NumV K H x lo b) (q : Q (.bl b) H) : spBetween K [x, .int lo, .int 1000000000000] H Q E := by
  rcases n with ⟨i, rfl, rfl⟩ | ⟨n, rfl⟩
  · exact ⟨_, _, _, rfl, .inl ⟨i, rfl, q⟩⟩
  · exact ⟨_, _, _, rfl, .inr ⟨n H fun _ _ e => e, q⟩⟩
end
/-- the first part that is wrong -/
def dueOf (bn bs bl bt bg : Bool) : Option Str := if bn = false then some "name" else if bs = false ∨ bg = false then some "place" else if bl = false then some "leaves" else if bt = false then some "takes" else none
def tripFs (n s l t g : V) : List (Str × V) := putF "goal" g (putF "takes" t (putF "leaves" l (putF "start" s (putF "name" n []))))
structure TripC (K : PySem.W.Frag) (C : Addr) : Prop where
  cl : Cls K C
  name : NoAttr K C "name"
  start : NoAttr K C "start"
  leaves : NoAttr K C "leaves"
  takes : NoAttr K C "takes"
  goal : NoAttr K C "goal"
/-- what stands in the places of a trip -/
structure Parts (K : PySem.W.Frag) (H : Hp) (n s l t g : V) (bn bs bl bt bg : Bool) : Prop where
  n : NameV K H n bn
  s : NameV K H s bs
  l : NumV K H l 0 bl
  t : NumV K H t 1 bt
  g : NameV K H g bg
theorem Parts.same {K : PySem.W.Frag} {H H' : Hp} {n s l t g : V} {bn bs bl bt bg : Bool} (p : Parts K H n s l t g bn bs bl bt bg) (e : Same H H') : Parts K H' n s l t g bn bs bl bt bg := ⟨p.n.same e, p.s.same e, p.l.same e, p.t.same e, p.g.same e⟩
def spTrip (K : PySem.W.Frag) (BT : Addr) : Sp := fun vs H Q E => ∃ (a C dx : Addr) (n s l t g : V) (bn bs bl bt bg : Bool), vs = [.ref a, n, s, l, t, g] ∧ H a = some (.ins C dx []) ∧ TripC K C ∧ Parts K H n s l t g bn bs bl bt bg ∧
  (∀ w, dueOf bn bs bl bt bg = some w → ∀ H', Same H H' → Rz BT [("part", .str w)] H' E) ∧ (dueOf bn bs bl bt bg = none → ∀ H', Same H H' → Q .non (upd H' a (.ins C dx (tripFs n s l t g))))
def spRun (K : PySem.W.Frag) (C BT : Addr) : Sp := fun vs H Q E => ∃ (a dx : Addr) (n s l t g : V), vs = [.ref a, n, s, l, t, g] ∧ H a = some (.ins C dx []) ∧ spTrip K BT vs H Q E
def spStay (K : PySem.W.Frag) (C BT : Addr) : Sp := fun vs H Q E => ∃ (a dx : Addr) (n s l t : V), vs = [.ref a, n, s, l, t] ∧ H a = some (.ins C dx []) ∧ spTrip K BT [.ref a, n, s, l, t, s] H Q E
/-! ### within a comprehension: the written part told -/
section
variable {X : Cx} {K : PySem.W.Frag}
theorem ix_listK (h : X.K = K) : IxR X (rIxL K) := by subst h; exact ix_list
theorem ix_tupK (h : X.K = K) : IxR X (rIxT K) := by subst h; exact ix_tup
theorem op_inK (h : X.K = K) : OpR X (compareOp .In) (rIn K false) := by subst h; exact op_in_seq
theorem op_notInK (h : X.K = K) : OpR X (compareOp .NotIn) (rIn K true) := by subst h; exact op_notIn_seq
theorem op_eqDK (h : X.K = K) (hu : X.A.units + 64 < cLine) : OpR X (compareOp .Eq) (rEqD K) := by subst h; exact op_eqD hu
theorem op_neDK (h : X.K = K) (hu : X.A.units + 64 < cLine) : OpR X (compareOp .NotEq) (rNeD K) := by subst h; exact op_neD hu
theorem pe_fldK {e : Expr} {ta : TE} {f : Str} {pos : Pos} (h : X.K = K) (he : PE X e ta) (hb : attributeBase e f X.env (eval e X.env) = eval e X.env) : PE X (.Attribute e f pos) (tFld K ta f) := by subst h; exact pe_fld he hb
theorem call_lenK (h : X.K = K) : CallR X (.builtin "len") (fun xs H Q => ∃ p ys, xs = [.ref p] ∧ (SqL K H p ys ∨ SqT K H p ys) ∧ Q (.int ys.length) H) := by subst h; exact call_len_seq
theorem call_isiK' (h : X.K = K) : CallR X (.builtin "isinstance") (rIsi K) := by subst h; exact call_isi
end
theorem upd2 {H : Hp} {a : Addr} {o1 o2 : HO} : upd (upd H a o1) a o2 = upd H a o2 := by
  funext b
  by_cases hb : b = a
  · rw [hb, upd_same, upd_same]
  · rw [upd_ne hb, upd_ne hb, upd_ne hb]
/-- some items are kept, the heap left -/
theorem lcL_filter {K : PySem.W.Frag} {σ : L2.St} {H : Hp} {Q : VK} {te : TE} {g : TG} {t : TT} {vs : List Nat} {a D : Addr} {xs : List V} {f : V → Bool} (hx : xs.length ≤ 1000) (hs : ∀ l, SqL K (upd H D (.lst l)) a xs)
    (ht : ∀ x ∈ xs, ∀ (R : V → Hp → Prop) (N : Hp → Prop) (l : List V), (f x = true → R x (upd H D (.lst l))) → (f x = false → N (upd H D (.lst l))) → g x (wipe σ vs) (upd H D (.lst l)) fun σ2 H2 => wipe σ2 vs = wipe σ vs ∧ t σ2 H2 fun b H3 => if b = true then te σ2 H3 R else N H3)
    (q : Q (.ref D) (upd H D (.lst (xs.filter f)))) : LcW (Itl K a) g t te vs σ H D Q := by
  refine lc_list (Qd := fun H' => Q (.ref D) H') (xs := xs) (fun i H' => H' = upd H D (.lst ((xs.take i).filter f))) (by simp) (fun i H' _ e => e ▸ hs _) (fun i x H' hx' e => ?_) fun H' e => by rw [List.take_length] at e; exact e ▸ q
  subst e
  have tk : xs.take (i + 1) = xs.take i ++ [x] := by rw [List.take_succ, hx']; rfl
  refine ht x (List.mem_of_getElem? hx') (fun y H4 => ∃ acc, H4 D = some (.lst acc) ∧ acc.length < sizeLine ∧ upd H4 D (.lst (acc ++ [y])) = upd H D (.lst ((xs.take (i + 1)).filter f))) (fun H3 => H3 = upd H D (.lst ((xs.take (i + 1)).filter f))) _ (fun h => ⟨_, upd_same, ?_, ?_⟩) fun h => ?_
  · refine Nat.lt_of_le_of_lt (List.length_filter_le _ _) ?_
    rw [List.length_take]
    exact Nat.lt_of_le_of_lt (Nat.le_trans (Nat.min_le_right _ _) hx) (by decide)
  · rw [upd2, tk, List.filter_append, List.filter_cons_of_pos h]
    rfl
  · rw [tk, List.filter_append, List.filter_cons_of_neg (by rw [h]; decide)]
    simp
theorem filter_empty {α : Type} (p : α → Bool) : ∀ l : List α, (l.filter p).isEmpty = !(l.any p)
  | [] => rfl
  | a :: l => by
    cases h : p a with
    | true => rw [List.filter_cons_of_pos h, List.any_cons, h]; rfl
    | false => rw [List.filter_cons_of_neg (by rw [h]; decide), List.any_cons, h, Bool.false_or]; exact filter_empty p l
/-! ### values of all kinds beside the pen -/
def OddV (p : Addr) (H : Hp) : V → Prop
  | .non => True
  | .bl _ => True
  | .int _ => True
  | .str z => z.length ≤ 1000
  | .ref a => a ≠ p ∧ ((∃ xs, H a = some (.lst xs)) ∨ (∃ xs, H a = some (.tup xs)) ∨ ∃ kvs, H a = some (.dK kvs))
  | _ => False
def nameB : V → Bool
  | .str z => isName z
  | _ => false
def numB (lo : Int) : V → Bool
  | .int i => decide (lo ≤ i ∧ i ≤ 1000000000000)
  | _ => false
section
variable {K : PySem.W.Frag} {p : Addr} {H H' : Hp} {x : V}
theorem OddV.got (o : OddV p H x) (g : GoT p H H') : OddV p H' x := by
  cases x with
  | ref a =>
    obtain ⟨n, ⟨xs, h⟩ | ⟨xs, h⟩ | ⟨xs, h⟩⟩ := o
    · exact ⟨n, .inl ⟨xs, g _ _ n (fun _ z => by cases z) h⟩⟩
    · exact ⟨n, .inr (.inl ⟨xs, g _ _ n (fun _ z => by cases z) h⟩)⟩
    · exact ⟨n, .inr (.inr ⟨xs, g _ _ n (fun _ z => by cases z) h⟩)⟩
  | _ => exact o
theorem OddV.name (o : OddV p H x) : NameV K H x (nameB x) := by
  cases x with
  | non => exact .inr ⟨fun _ _ => .non, rfl⟩
  | bl b => exact .inr ⟨fun _ _ => .bl b, rfl⟩
  | int i => exact .inr ⟨fun _ _ => .int i, rfl⟩
  | str z => exact .inl ⟨z, rfl, o, rfl⟩
  | ref a =>
    obtain ⟨n, ⟨xs, h⟩ | ⟨xs, h⟩ | ⟨xs, h⟩⟩ := o
    · exact .inr ⟨fun _ s => .lst (s _ _ h), rfl⟩
    · exact .inr ⟨fun _ s => .tup (s _ _ h), rfl⟩
    · exact .inr ⟨fun _ s => .dK (s _ _ h), rfl⟩
  | _ => exact o.elim
theorem OddV.num {lo : Int} (o : OddV p H x) : NumV K H x lo (numB lo x) := by
  cases x with
  | non => exact .inr ⟨fun _ _ => .non, rfl⟩
  | bl b => exact .inr ⟨fun _ _ => .bl b, rfl⟩
  | int i => exact .inl ⟨i, rfl, rfl⟩
  | str z => exact .inr ⟨fun _ _ => .str z, rfl⟩
  | ref a =>
    obtain ⟨n, ⟨xs, h⟩ | ⟨xs, h⟩ | ⟨xs, h⟩⟩ := o
    · exact .inr ⟨fun _ s => .lst (s _ _ h), rfl⟩
    · exact .inr ⟨fun _ s => .tup (s _ _ h), rfl⟩
    · exact .inr ⟨fun _ s => .dK (s _ _ h), rfl⟩
  | _ => exact o.elim
end
theorem t_dnew {σ : L2.St} {H : Hp} {Q : VK} (h : ∀ p, H p = none → Q (.ref p) (upd H p (.dK []))) : tDNewK σ H Q := h
def optV : Option Str → V
  | none => .non
  | some z => .str z
/-- a trip made, or refused, under heard -/
theorem mk_trip {K : PySem.W.Frag} {H : Hp} {C BT : Addr} {n s l t g : V} {bn bs bl bt bg : Bool} {Ech : XK} {Qc R : VK} (tc : TripC K C) (pa : Parts K H n s l t g bn bs bl bt bg)
    (hE : ∀ v dd H', H' dd = some (.xd [("part", v)]) → (∀ H'', Same H' H'' → R v H'') → Ech (.ref BT) (some dd) H') (hQ : ∀ v H1, R .non H1 → Qc v H1) (q : ∀ H', Same H H' → R (optV (dueOf bn bs bl bt bg)) H') {x dx : Addr} (hx : H x = none) (hd : H dx = none) :
    spTrip K BT [.ref x, n, s, l, t, g] (upd (upd H dx (.own x)) x (.ins C dx [])) (fun v H2 => v = .non ∧ Qc (.ref x) H2) Ech := by
  have S : Same H (upd (upd H dx (.own x)) x (.ins C dx [])) := fun b o e => by rw [upd_ne (ne_of_none e hx), upd_ne (ne_of_none e hd)]; exact e
  refine ⟨x, C, dx, n, s, l, t, g, bn, bs, bl, bt, bg, rfl, upd_same, tc, pa.same S, fun w hw H' S' d H'' _ S'' hxd => hE _ d H'' hxd fun H3 S3 => ?_, fun hn H' S' => ⟨rfl, hQ _ _ ?_⟩⟩
  · rw [hw] at q
    exact q H3 (((S.trans S').trans S'').trans S3)
  · rw [hn] at q
    refine q _ fun b o e => ?_
    rw [upd_ne (ne_of_none e hx)]
    exact (S.trans S') b o e
theorem inV_ints (n : Nat) : ∀ ns : List Nat, inV (.int (n : Int)) (ns.map fun (k : Nat) => V.int (k : Int)) = decide (n ∈ ns)
  | [] => rfl
  | k :: r => by
    have ih := inV_ints n r
    unfold inV at ih ⊢
    rw [List.map_cons, List.any_cons, ih]
    by_cases h : n = k
    · subst h; simp [eqV]
    · have e : eqV (.int (k : Int)) (.int (n : Int)) = false := by simp [eqV]; omega
      rw [e]; simp [h]
theorem t_bm {K : PySem.W.Frag} {T : String} {r : V → List V → Hp → VK → Prop} {to : TE} {t : TA} {σ : L2.St} {H : Hp} {Q : VK} (h : to σ H fun x H1 => tyV K T x H1 ∧ t σ H1 fun xs H2 => r x xs H2 Q) : tBM K T r to t σ H Q := h
theorem t_lam {T : List (Addr × Str)} {TT : (XK → Hp → VK → Prop) → Hp → VK → Prop} {t : XK → TE} {σ : L2.St} {H : Hp} {Q : VK} (tab : LamX.Tabs T H) (h : ∀ H1, LamX.ExtN H H1 → LamX.Tabs T H1 → TT (fun E H' Q' => t E σ H' Q') H1 Q) : LamX.tLam T TT t σ H Q := ⟨tab, h⟩
theorem odd_if {p : Addr} {H : Hp} {c : Prop} [Decidable c] {a b : V} {B : V → Bool} (h1 : OddV p H a) (h2 : OddV p H b) (h3 : B a = false) (h4 : B b = true) : OddV p H (if c then a else b) ∧ B (if c then a else b) = !decide c := by
  by_cases h : c
  · rw [if_pos h, decide_eq_true h]; exact ⟨h1, h3⟩
  · rw [if_neg h, decide_eq_false h]; exact ⟨h2, h4⟩
theorem Tabs.upd {T : List (Addr × Str)} {H : Hp} {a : Addr} {xs : List V} {o : HO} (t : LamX.Tabs T H) (h : H a = some (.lst xs)) : LamX.Tabs T (upd H a o) := fun q hq => by
  obtain ⟨ps, h1, h2, h3⟩ := t q hq
  have ne : ∀ {b : Addr} {u : HO}, H b = some u → (∀ xs, u ≠ .lst xs) → b ≠ a := fun {b u} e n z => by
    rw [z, h] at e
    exact n _ (Option.some.inj e).symm
  refine ⟨ps, by rw [upd_ne (ne h1 (fun _ z => by cases z))]; exact h1, h2, fun pos cv hc => ?_⟩
  obtain ⟨c, e1, e2⟩ := h3 pos cv hc
  exact ⟨c, e1, by rw [upd_ne (ne e2 (fun _ z => by cases z))]; exact e2⟩
end Ol

namespace Ol
open PySem
def words : List Str := ["name", "place", "leaves", "takes", "place"]
/-- the first word of some places -/
def dueW (ns : List Nat) : Option Str := (["name", "place", "leaves", "takes"] : List Str).find? fun wd => (ns.any fun n => words[n]? == some wd)
theorem any_word {ns : List Nat} (h : ∀ n ∈ ns, n < 5) {wd : Str} (f : Nat → Bool) (hf : ∀ n, n < 5 → (words[n]? == some wd) = f n) : (ns.any fun n => words[n]? == some wd) = ns.any f := by
  rw [Bool.eq_iff_iff, List.any_eq_true, List.any_eq_true]
  constructor
  · rintro ⟨n, h1, h2⟩
    exact ⟨n, h1, by rw [← hf n (h n h1)]; exact h2⟩
  · rintro ⟨n, h1, h2⟩
    exact ⟨n, h1, by rw [hf n (h n h1)]; exact h2⟩
theorem any_one (ns : List Nat) (k : Nat) : (ns.any fun n => n == k) = decide (k ∈ ns) := by
  rw [Bool.eq_iff_iff, List.any_eq_true, decide_eq_true_iff]
  constructor
  · rintro ⟨n, h1, h2⟩
    rw [← beq_iff_eq.mp h2]; exact h1
  · exact fun h => ⟨k, h, by simp⟩
theorem any_two (ns : List Nat) (k j : Nat) : (ns.any fun n => n == k || n == j) = (decide (k ∈ ns) || decide (j ∈ ns)) := by
  rw [← any_one, ← any_one, Bool.eq_iff_iff, Bool.or_eq_true, List.any_eq_true, List.any_eq_true, List.any_eq_true]
  constructor
  · rintro ⟨n, h1, h2⟩
    rcases Bool.or_eq_true_iff.mp h2 with h | h
    · exact .inl ⟨n, h1, h⟩
    · exact .inr ⟨n, h1, h⟩
  · rintro (⟨n, h1, h⟩ | ⟨n, h1, h⟩)
    · exact ⟨n, h1, by rw [h]; rfl⟩
    · exact ⟨n, h1, by rw [h, Bool.or_true]⟩
theorem dueW_eq {ns : List Nat} (h : ∀ n ∈ ns, n < 5) : dueW ns = dueOf (!decide (0 ∈ ns)) (!decide (1 ∈ ns)) (!decide (2 ∈ ns)) (!decide (3 ∈ ns)) (!decide (4 ∈ ns)) := by
  have e1 := (any_word h (wd := "name") (fun n => n == 0) (by decide +kernel)).trans (any_one ns 0)
  have e2 := (any_word h (wd := "place") (fun n => n == 1 || n == 4) (by decide +kernel)).trans (any_two ns 1 4)
  have e3 := (any_word h (wd := "leaves") (fun n => n == 2) (by decide +kernel)).trans (any_one ns 2)
  have e4 := (any_word h (wd := "takes") (fun n => n == 3) (by decide +kernel)).trans (any_one ns 3)
  unfold dueW dueOf
  simp only [List.find?, e1, e2, e3, e4]
  cases decide (0 ∈ ns) <;> cases decide (1 ∈ ns) <;> cases decide (2 ∈ ns) <;> cases decide (3 ∈ ns) <;> cases decide (4 ∈ ns) <;> rfl
theorem dueW_lone {ns : List Nat} (h : ∀ n ∈ ns, n < 5) : dueW (ns.filter fun n => decide (n < 4)) = dueOf (!decide (0 ∈ ns)) (!decide (1 ∈ ns)) (!decide (2 ∈ ns)) (!decide (3 ∈ ns)) (!decide (1 ∈ ns)) := by
  rw [dueW_eq fun n hn => h n (List.mem_filter.mp hn).1]
  have m : ∀ k, k < 4 → decide (k ∈ ns.filter fun n => decide (n < 4)) = decide (k ∈ ns) := fun k hk => by
    rw [Bool.eq_iff_iff, decide_eq_true_iff, decide_eq_true_iff, List.mem_filter]
    exact ⟨fun z => z.1, fun z => ⟨z, decide_eq_true hk⟩⟩
  have m4 : decide (4 ∈ ns.filter fun n => decide (n < 4)) = false := decide_eq_false fun z => by
    have := of_decide_eq_true (List.mem_filter.mp z).2
    omega
  rw [m 0 (by decide), m 1 (by decide), m 2 (by decide), m 3 (by decide), m4]
  unfold dueOf
  cases decide (0 ∈ ns) <;> cases decide (1 ∈ ns) <;> rfl
def optD : Option Str → PyData
  | none => .none
  | some z => .str z
theorem dp_opt {K : PySem.W.Frag} {H : L2.Hp} : ∀ o : Option Str, L2.Dp K H (optV o) (optD o)
  | none => .non
  | some z => .str z
theorem due_ok (a b c d e : Bool) : PyData.canLay0 (optD (dueOf a b c d e)) = true := by
  cases a <;> cases b <;> cases c <;> cases d <;> cases e <;> decide +kernel
theorem shaped4 {x y : Option Str} (hx : (optD x).canLay0 = true) (hy : (optD y).canLay0 = true) : SeqAt.shaped (.list [optD x, optD x, optD y, optD y]) = true := by
  have h1 : PyData.canLay0 (.list [optD x, optD x, optD y, optD y]) = true := by
    show ((optD x).canLay0 && ((optD x).canLay0 && ((optD y).canLay0 && ((optD y).canLay0 && true)))) = true
    rw [hx, hy]; rfl
  unfold SeqAt.shaped
  rw [h1, Bool.true_and]
  cases x <;> cases y <;> rfl
end Ol

namespace Ol
open PySem L2 LamX
local macro_rules | `(tactic| walk_at "s") => `(tactic| ((first | with_reducible exact True.intro | ((with_reducible refine' t_var ?hv ?_); (case hv => exact rfl)) | with_reducible refine t_c ?_ | with_reducible refine t_op ?_ | with_reducible refine t_cons ?_ | with_reducible refine t_nil ?_ | with_reducible refine t_cb ?_ | with_reducible refine t_call ?_ | with_reducible refine t_ret ?_ | with_reducible refine t_seq ?_ | with_reducible refine t_asg ?_ | with_reducible refine t_name ?_ | with_reducible refine t_ifS ?_ | with_reducible refine t_next ?_ | with_reducible refine t_B ?_ | with_reducible refine t_test ?_ | with_reducible refine t_and ?_ | with_reducible refine t_or ?_ | with_reducible refine t_not ?_ | with_reducible refine t_andV ?_ | with_reducible refine t_orV ?_ | with_reducible refine t_notV ?_ | with_reducible refine t_if ?_ | with_reducible refine t_chain ?_ | with_reducible refine t_un ?_ | with_reducible refine t_meth ?_ | with_reducible refine t_fld ?_ | with_reducible refine t_sfld ?_ | with_reducible refine t_par3 ?_ | with_reducible refine t_for1 ?_ | with_reducible refine t_forL ?_ | with_reducible refine t_forT ?_ | with_reducible refine c_abs ?_ | with_reducible refine t_make ?_ | with_reducible refine ex_par3 ?_ | with_reducible refine t_drop ?_ | with_reducible refine t_retN ?_ | with_reducible refine t_lst ?_ | with_reducible refine t_tup ?_ | with_reducible refine t_par ?_ | with_reducible refine ex_par ?_ | with_reducible refine t_sl ?_ | with_reducible refine t_part ?_ | with_reducible refine t_noPart ?_ | with_reducible refine t_sub ?_ | with_reducible refine ex_bl ?_ | with_reducible refine ex_int ?_ | with_reducible refine r_I0 ?_ | with_reducible refine r_U ?_ | with_reducible refine r_eqI ?_ | with_reducible refine r_neI ?_ | with_reducible refine r_eqB ?_ | with_reducible refine r_neB ?_ | ((with_reducible refine r_I ?hi ?_); (case hi => first | omega | decide | exact .inl ⟨by omega, by omega⟩ | exact .inr ⟨by omega, by omega⟩ | exact ⟨by omega, by omega, by omega⟩ | exact ⟨by decide, by decide⟩ | exact ⟨by decide, by decide, mix_lt (Int.emod_nonneg _ (by decide)) (Int.lt_of_lt_of_le (Int.emod_lt_of_pos _ (by decide)) (by decide)) (by omega) (by omega) (by decide) (by decide) (by decide) (by decide) (by decide) (by decide)⟩ | exact .inl ⟨Int.lt_of_lt_of_le (by decide) (Int.emod_nonneg _ (by decide)), Int.lt_trans (Int.emod_lt_of_pos _ (by decide)) (by decide)⟩)) | with_reducible refine c_int1 ?_ | with_reducible refine c_intB ?_ | with_reducible refine iteT ?_ | with_reducible refine iteF ?_ | with_reducible refine ite_n ?_ | ((with_reducible refine ite_y ?hc ?_); (case hc => first | omega | decide)) | ((with_reducible refine ite_f ?hc ?_); (case hc => first | omega | decide))); try dsimp only))

def top (i : Nat) : Stmt := PySem.Challenge.pw_onelongturn_k13_trips_refused.main.body.getD i (.Pass ⟨0, 0, 0, 0⟩)
abbrev s_is_integer : Stmt := top 3
abbrev s_is_between : Stmt := top 4
abbrev s_is_number : Stmt := top 5
abbrev s_is_name : Stmt := top 6
abbrev s_BadTrip_init : Stmt := inClass (top 13) 0
abbrev s_Trip_init : Stmt := inClass (top 18) 1
abbrev s_Run_init : Stmt := inClass (top 20) 1
abbrev s_Stay_init : Stmt := inClass (top 21) 1
abbrev s_pen : Stmt := top 24
abbrev s_draw : Stmt := top 25
abbrev s_pick : Stmt := top 26
abbrev s_heard : Stmt := top 27
abbrev s_no_name : Stmt := top 28
abbrev s_no_number : Stmt := top 29
abbrev s_due : Stmt := top 30
abbrev s_right : Stmt := top 31
abbrev s_edges_right : Stmt := top 32
abbrev s_law : Stmt := top 33
theorem sc_is_integer : FnScope ["value"] ["value"] (defScope s_is_integer) := ⟨rfl, rfl, rfl, by decide +kernel, rfl, by decide +kernel, by decide +kernel⟩
theorem sc_is_between : FnScope ["value", "low", "high"] ["value", "low", "high"] (defScope s_is_between) := ⟨rfl, rfl, rfl, by decide +kernel, rfl, by decide +kernel, by decide +kernel⟩
theorem sc_is_number : FnScope ["value"] ["value"] (defScope s_is_number) := ⟨rfl, rfl, rfl, by decide +kernel, rfl, by decide +kernel, by decide +kernel⟩
theorem sc_is_name : FnScope ["value", "sign"] ["value"] (defScope s_is_name) := ⟨rfl, rfl, rfl, by decide +kernel, rfl, by decide +kernel, by decide +kernel⟩
theorem sc_BadTrip_init : SupScope ["self", "part"] ["self", "part"] (defScope s_BadTrip_init) := ⟨rfl, rfl, rfl, by decide +kernel, rfl, by decide +kernel, by decide +kernel, by decide +kernel, rfl, rfl⟩
theorem sc_Trip_init : FnScope ["self", "name", "start", "leaves", "takes", "goal"] ["self", "name", "start", "leaves", "takes", "goal"] (defScope s_Trip_init) := ⟨rfl, rfl, rfl, by decide +kernel, rfl, by decide +kernel, by decide +kernel⟩
theorem sc_Run_init : SupScope ["self", "name", "start", "leaves", "takes", "goal"] ["self", "name", "start", "leaves", "takes", "goal"] (defScope s_Run_init) := ⟨rfl, rfl, rfl, by decide +kernel, rfl, by decide +kernel, by decide +kernel, by decide +kernel, rfl, rfl⟩
theorem sc_Stay_init : SupScope ["self", "name", "place", "leaves", "takes"] ["self", "name", "place", "leaves", "takes"] (defScope s_Stay_init) := ⟨rfl, rfl, rfl, by decide +kernel, rfl, by decide +kernel, by decide +kernel, by decide +kernel, rfl, rfl⟩
theorem sc_pen : FnScope ["_law_script"] ["_law_script"] (defScope s_pen) := ⟨rfl, rfl, rfl, by decide +kernel, rfl, by decide +kernel, by decide +kernel⟩
theorem sc_draw : FnScope ["_law_pen_here", "_law_many", "_law_turn", "_law_cell", "_law_mixed", "_law_digit", "_law_great"] ["_law_pen_here", "_law_many"] (defScope s_draw) := ⟨rfl, rfl, rfl, by decide +kernel, rfl, by decide +kernel, by decide +kernel⟩
theorem sc_pick : FnScope ["_law_pen_here", "_law_some"] ["_law_pen_here", "_law_some"] (defScope s_pick) := ⟨rfl, rfl, rfl, by decide +kernel, rfl, by decide +kernel, by decide +kernel⟩
theorem sc_heard : FnScope ["_law_ask", "_law_caught", "error"] ["_law_ask"] (defScope s_heard) := ⟨rfl, rfl, rfl, by decide +kernel, rfl, by decide +kernel, by decide +kernel⟩
theorem sc_no_name : FnScope ["_law_pen_here"] ["_law_pen_here"] (defScope s_no_name) := ⟨rfl, rfl, rfl, by decide +kernel, rfl, by decide +kernel, by decide +kernel⟩
theorem sc_no_number : FnScope ["_law_pen_here", "_law_few", "_law_some"] ["_law_pen_here", "_law_few"] (defScope s_no_number) := ⟨rfl, rfl, rfl, by decide +kernel, rfl, by decide +kernel, by decide +kernel⟩
theorem sc_due : FnScope ["_law_wrong", "_law_words", "_law_word", "_law_at"] ["_law_wrong"] (defScope s_due) := ⟨rfl, rfl, rfl, by decide +kernel, rfl, by decide +kernel, by decide +kernel⟩
theorem sc_right : FnScope ["_law_pen_here", "_law_fine", "_law_odd", "_law_wrong", "_law_told", "_law_heard_here", "_law_due_here", "_law_lone", "_law_at"] ["_law_pen_here"] (defScope s_right) := ⟨rfl, rfl, rfl, by decide +kernel, rfl, by decide +kernel, by decide +kernel⟩
theorem sc_edges_right : FnScope ["_law_far", "_law_heard_here"] [] (defScope s_edges_right) := ⟨rfl, rfl, rfl, by decide +kernel, rfl, by decide +kernel, by decide +kernel⟩
theorem sc_law : FnScope ["_law_script", "_law_pen_here", "_law_lap"] ["_law_script"] (defScope s_law) := ⟨rfl, rfl, rfl, by decide +kernel, rfl, by decide +kernel, by decide +kernel⟩
theorem bt_ValueError : bootBuiltins "ValueError" = some (.type "ValueError") := by decide +kernel
theorem bt_abs : bootBuiltins "abs" = some (.builtin "abs") := by decide +kernel
theorem bt_all : bootBuiltins "all" = some (.builtin "all") := by decide +kernel
theorem bt_bool : bootBuiltins "bool" = some (.type "bool") := by decide +kernel
theorem bt_int : bootBuiltins "int" = some (.type "int") := by decide +kernel
theorem bt_isinstance : bootBuiltins "isinstance" = some (.builtin "isinstance") := by decide +kernel
theorem bt_len : bootBuiltins "len" = some (.builtin "len") := by decide +kernel
theorem bt_list : bootBuiltins "list" = some (.type "list") := by decide +kernel
theorem bt_range : bootBuiltins "range" = some (.type "range") := by decide +kernel
theorem bt_str : bootBuiltins "str" = some (.type "str") := by decide +kernel
structure Ad where
  TurnError : Addr
  BadInput : Addr
  Refused : Addr
  BadTrip : Addr
  Trip : Addr
  Run : Addr
  Stay : Addr
  is_integer : Addr
  is_between : Addr
  is_number : Addr
  is_name : Addr
  BadTrip_init : Addr
  Trip_init : Addr
  Run_init : Addr
  Stay_init : Addr
  pen : Addr
  draw : Addr
  pick : Addr
  heard : Addr
  no_name : Addr
  no_number : Addr
  due : Addr
  right : Addr
  edges_right : Addr
  law : Addr
  right_c : Addr
  right_p : Addr
  edges_right_c : Addr
  edges_right_p : Addr
structure Fd where
  is_integer : FuncData
  is_between : FuncData
  is_number : FuncData
  is_name : FuncData
  BadTrip_init : FuncData
  Trip_init : FuncData
  Run_init : FuncData
  Stay_init : FuncData
  pen : FuncData
  draw : FuncData
  pick : FuncData
  heard : FuncData
  no_name : FuncData
  no_number : FuncData
  due : FuncData
  right : FuncData
  edges_right : FuncData
  law : FuncData
structure Txt (P : Program) (K : PySem.W.Frag) (mg : Str → Option Value) (A : Ad) (D : Fd) : Prop where
  m_is_integer : mg "is_integer" = some (.ref A.is_integer)
  f_is_integer : Fun K "is_integer" "is_integer" s_is_integer A.is_integer D.is_integer
  b_is_integer : Binds K D.is_integer ["value"] []
  m_is_between : mg "is_between" = some (.ref A.is_between)
  f_is_between : Fun K "is_between" "is_between" s_is_between A.is_between D.is_between
  b_is_between : Binds K D.is_between ["value", "low", "high"] []
  m_is_number : mg "is_number" = some (.ref A.is_number)
  f_is_number : Fun K "is_number" "is_number" s_is_number A.is_number D.is_number
  b_is_number : Binds K D.is_number ["value"] []
  m_is_name : mg "is_name" = some (.ref A.is_name)
  f_is_name : Fun K "is_name" "is_name" s_is_name A.is_name D.is_name
  b_is_name : Binds K D.is_name ["value"] []
  f_BadTrip_init : FunS P K "__init__" "BadTrip.__init__" s_BadTrip_init A.BadTrip_init D.BadTrip_init A.BadTrip
  b_BadTrip_init : Binds K D.BadTrip_init ["self", "part"] []
  f_Trip_init : Fun K "__init__" "Trip.__init__" s_Trip_init A.Trip_init D.Trip_init
  b_Trip_init : Binds K D.Trip_init ["self", "name", "start", "leaves", "takes", "goal"] []
  f_Run_init : FunS P K "__init__" "Run.__init__" s_Run_init A.Run_init D.Run_init A.Run
  b_Run_init : Binds K D.Run_init ["self", "name", "start", "leaves", "takes", "goal"] []
  f_Stay_init : FunS P K "__init__" "Stay.__init__" s_Stay_init A.Stay_init D.Stay_init A.Stay
  b_Stay_init : Binds K D.Stay_init ["self", "name", "place", "leaves", "takes"] []
  m_pen : mg "_law_pen" = some (.ref A.pen)
  f_pen : Fun K "_law_pen" "_law_pen" s_pen A.pen D.pen
  b_pen : Binds K D.pen ["_law_script"] []
  m_draw : mg "_law_draw" = some (.ref A.draw)
  f_draw : Fun K "_law_draw" "_law_draw" s_draw A.draw D.draw
  b_draw : Binds K D.draw ["_law_pen_here", "_law_many"] []
  m_pick : mg "_law_pick" = some (.ref A.pick)
  f_pick : Fun K "_law_pick" "_law_pick" s_pick A.pick D.pick
  b_pick : Binds K D.pick ["_law_pen_here", "_law_some"] []
  m_heard : mg "_law_heard" = some (.ref A.heard)
  f_heard : Fun K "_law_heard" "_law_heard" s_heard A.heard D.heard
  b_heard : Binds K D.heard ["_law_ask"] []
  m_no_name : mg "_law_no_name" = some (.ref A.no_name)
  f_no_name : Fun K "_law_no_name" "_law_no_name" s_no_name A.no_name D.no_name
  b_no_name : Binds K D.no_name ["_law_pen_here"] []
  m_no_number : mg "_law_no_number" = some (.ref A.no_number)
  f_no_number : Fun K "_law_no_number" "_law_no_number" s_no_number A.no_number D.no_number
  b_no_number : Binds K D.no_number ["_law_pen_here", "_law_few"] []
  m_due : mg "_law_due" = some (.ref A.due)
  f_due : Fun K "_law_due" "_law_due" s_due A.due D.due
  b_due : Binds K D.due ["_law_wrong"] []
  m_right : mg "_law_right" = some (.ref A.right)
  f_right : FunL K "_law_right" "_law_right" s_right A.right D.right A.right_c
  b_right : Binds K D.right ["_law_pen_here"] []
  m_edges_right : mg "_law_edges_right" = some (.ref A.edges_right)
  f_edges_right : FunL K "_law_edges_right" "_law_edges_right" s_edges_right A.edges_right D.edges_right A.edges_right_c
  b_edges_right : Binds K D.edges_right [] []
  m_law : mg "law" = some (.ref A.law)
  f_law : Fun K "law" "law" s_law A.law D.law
  b_law : Binds K D.law ["_law_script"] []
  m_TurnError : mg "TurnError" = some (.ref A.TurnError)
  m_BadInput : mg "BadInput" = some (.ref A.BadInput)
  m_Refused : mg "Refused" = some (.ref A.Refused)
  m_BadTrip : mg "BadTrip" = some (.ref A.BadTrip)
  m_Trip : mg "Trip" = some (.ref A.Trip)
  cl_Trip : Cls K A.Trip
  mk_Trip : Mk K A.Trip A.Trip_init
  m_Run : mg "Run" = some (.ref A.Run)
  cl_Run : Cls K A.Run
  mk_Run : Mk K A.Run A.Run_init
  m_Stay : mg "Stay" = some (.ref A.Stay)
  cl_Stay : Cls K A.Stay
  mk_Stay : Mk K A.Stay A.Stay_init
  na_Trip_goal : NoAttr K A.Trip "goal"
  na_Trip_leaves : NoAttr K A.Trip "leaves"
  na_Trip_name : NoAttr K A.Trip "name"
  na_Trip_start : NoAttr K A.Trip "start"
  na_Trip_takes : NoAttr K A.Trip "takes"
  is_Trip : IsC K A.Trip
  is_Run : IsC K A.Run
  is_Stay : IsC K A.Stay
  er_BadTrip : ErrT K A.BadTrip A.BadTrip_init
  nf_BadTrip_part : PySem.W.findIn K (.ref A.BadTrip) "part" = some none
  so_Run : SupO K A.Run A.Run A.Trip_init
  so_Stay : SupO K A.Stay A.Stay A.Trip_init
  fi_Trip_init : PySem.W.fnIn K A.Trip_init = true
  ff_Trip_init : PySem.W.isFn K (.ref A.Trip_init) = true
  ms : mg "super" = none
  op : PySem.W.nsIn K cStatics "thirdparty.any" = some none
  ne_right_edges_right : A.right_p ≠ A.edges_right_p
  g_LETTERS : ∃ t, mg "LETTERS" = some (Value.str "abcdefghijklmnopqrstuvwxyz" t)
  g_MOST_NUMBER : ∃ t, mg "MOST_NUMBER" = some (Value.int 1000000000000 t)
  n_ValueError : mg "ValueError" = none
  n_abs : mg "abs" = none
  n_all : mg "all" = none
  n_bool : mg "bool" = none
  n_int : mg "int" = none
  n_isinstance : mg "isinstance" = none
  n_len : mg "len" = none
  n_list : mg "list" = none
  n_range : mg "range" = none
  n_str : mg "str" = none
  kx_bt : PySem.W.kitOne K (.ref A.BadTrip) (.ref A.BadTrip) = some true
  kx_bi : PySem.W.kitOne K (.ref A.BadTrip) (.ref A.BadInput) = some true
  kx_re : PySem.W.kitOne K (.ref A.BadTrip) (.ref A.Refused) = some false
  kx_ve : PySem.W.kitOne K (.ref A.BadTrip) (.type "ValueError") = some true
  te_1 : PySem.W.subIn K (.ref A.TurnError) (.type "BaseException") = some true
  te_2 : PySem.W.hasDictIn K A.TurnError = true
  te_3 : PySem.W.typeIn K (.ref A.TurnError) = some (.type "type")
  te_4 : PySem.W.subIn K (.ref A.BadTrip) (.ref A.TurnError) = some true
  nR_name : PySem.W.findIn K (.ref A.Run) "name" = some none
  nR_start : PySem.W.findIn K (.ref A.Run) "start" = some none
  nR_leaves : PySem.W.findIn K (.ref A.Run) "leaves" = some none
  nR_takes : PySem.W.findIn K (.ref A.Run) "takes" = some none
  nR_goal : PySem.W.findIn K (.ref A.Run) "goal" = some none
  nS_name : PySem.W.findIn K (.ref A.Stay) "name" = some none
  nS_start : PySem.W.findIn K (.ref A.Stay) "start" = some none
  nS_leaves : PySem.W.findIn K (.ref A.Stay) "leaves" = some none
  nS_takes : PySem.W.findIn K (.ref A.Stay) "takes" = some none
  nS_goal : PySem.W.findIn K (.ref A.Stay) "goal" = some none
structure Tbs (base : Heap) (mg : Str → Option Value) (A : Ad) : Prop where
  t_right : LamX.TabB base mg A.right_c A.right_p
  t_edges_right : LamX.TabB base mg A.edges_right_c A.edges_right_p
def Ts (A : Ad) : List (Addr × Str) := [(A.right_p, ("_law_right" : Str) ++ ".<locals>." ++ "<lambda>"), (A.edges_right_p, ("_law_edges_right" : Str) ++ ".<locals>." ++ "<lambda>")]
theorem ts_right {P : Program} {K : PySem.W.Frag} {mg : Str → Option Value} {A : Ad} {D : Fd} (T : Txt P K mg A D) : ∀ p ∈ Ts A, p.1 = A.right_p → p.2 = ("_law_right" : Str) ++ ".<locals>." ++ "<lambda>" := by
  intro p hp e
  simp only [Ts, List.mem_cons, List.not_mem_nil, or_false] at hp
  rcases hp with rfl | rfl
  · rfl
  · exact absurd e.symm T.ne_right_edges_right
theorem ts_edges_right {P : Program} {K : PySem.W.Frag} {mg : Str → Option Value} {A : Ad} {D : Fd} (T : Txt P K mg A D) : ∀ p ∈ Ts A, p.1 = A.edges_right_p → p.2 = ("_law_edges_right" : Str) ++ ".<locals>." ++ "<lambda>" := by
  intro p hp e
  simp only [Ts, List.mem_cons, List.not_mem_nil, or_false] at hp
  rcases hp with rfl | rfl
  · exact absurd e T.ne_right_edges_right
  · rfl
section
variable {P : Program} {w : World} {K : PySem.W.Frag} {mg : Str → Option Value} {base : Heap} {A : Ad} {D : Fd}
theorem ok_is_integer (T : Txt P K mg A D) : FnOk P w K mg base CX0 1 A.is_integer D.is_integer ["value"] (spIsInt K) := by
  refine T.f_is_integer.ok sc_is_integer (fun vs H Q E h => ?_) (fun cdv Ar outer s H vs Q E hr h => ?_)
  · obtain ⟨x, rfl, _⟩ := h
    rfl
  · obtain ⟨x, rfl, h⟩ := h
    refine ⟨_, (pss_one (ps_ret (pe_and (pe_callB call_isi rfl T.n_isinstance bt_isinstance (pa_cons (pv 0) (pa_cons (pe_bltn (v := .ty "int") rfl T.n_int bt_int rfl) pa_nil))) (pe_one (pe_not (pe_callB call_isi rfl T.n_isinstance bt_isinstance (pa_cons (pv 0) (pa_cons (pe_bltn (v := .ty "bool") rfl T.n_bool bt_bool rfl) pa_nil)))))))), ?_⟩
    rcases h with ⟨i, rfl, q⟩ | ⟨⟨t, b, ty, k1, k2⟩, q⟩
    · repeat walk_at "s"
      refine ⟨_, _, _, _, _, rfl, .ty _, .base (.int i), kit_int_int, ?_⟩
      repeat walk_at "s"
      refine ⟨_, _, _, _, _, rfl, .ty _, .base (.int i), kit_int_bool, ?_⟩
      repeat walk_at "s"
      exact q
    · repeat walk_at "s"
      refine ⟨_, _, _, _, _, rfl, .ty _, ty, k1, ?_⟩
      repeat walk_at "s"
      cases b with
      | false =>
        repeat walk_at "s"
        exact q
      | true =>
        repeat walk_at "s"
        refine ⟨_, _, _, _, _, rfl, .ty _, ty, k2 rfl, ?_⟩
        repeat walk_at "s"
        exact q
theorem ok_is_between (T : Txt P K mg A D) : FnOk P w K mg base CX0 2 A.is_between D.is_between ["value", "low", "high"] (spBetween K) := by
  refine T.f_is_between.ok sc_is_between (fun vs H Q E h => ?_) (fun cdv Ar outer s H vs Q E hr h => ?_)
  · obtain ⟨x, lo, hi, rfl, _⟩ := h
    rfl
  · obtain ⟨x, lo, hi, rfl, h⟩ := h
    refine ⟨_, (pss_one (ps_ret (pe_and (pe_call (ok_is_integer T) (hr.mono (by decide)) rfl T.m_is_integer T.f_is_integer.kp T.b_is_integer .nil pass0 (pa_cons (pv 0) pa_nil)) (pe_one (pe_chain op_le op_le (pv 1) (pv 0) (pv 2)))))), ?_⟩
    rcases h with ⟨i, rfl, q⟩ | ⟨ni, q⟩
    · repeat walk_at "s"
      refine ⟨_, rfl, .inl ⟨i, rfl, ?_⟩⟩
      repeat walk_at "s"
      refine ite_d (fun h1 => ?_) fun h1 => ?_
      · repeat walk_at "s"
        by_cases h2 : i ≤ hi
        · rw [decide_eq_true (⟨h1, h2⟩ : lo ≤ i ∧ i ≤ hi)] at q
          rw [decide_eq_true h2]
          exact q
        · rw [decide_eq_false fun z : lo ≤ i ∧ i ≤ hi => h2 z.2] at q
          rw [decide_eq_false h2]
          exact q
      · rw [decide_eq_false fun z : lo ≤ i ∧ i ≤ hi => h1 z.1] at q
        exact q
    · repeat walk_at "s"
      refine ⟨_, rfl, .inr ⟨ni, ?_⟩⟩
      repeat walk_at "s"
      exact q
theorem ok_is_number (T : Txt P K mg A D) : FnOk P w K mg base CX0 3 A.is_number D.is_number ["value"] (spNumber K) := by
  refine T.f_is_number.ok sc_is_number (fun vs H Q E h => ?_) (fun cdv Ar outer s H vs Q E hr h => ?_)
  · obtain ⟨x, rfl, _⟩ := h
    rfl
  · obtain ⟨x, rfl, h⟩ := h
    refine ⟨_, (pss_one (ps_ret (pe_call (ok_is_between T) (hr.mono (by decide)) rfl T.m_is_between T.f_is_between.kp T.b_is_between .nil pass0 (pa_cons (pv 0) (pa_cons pe_int (pa_cons (pe_gi rfl T.g_MOST_NUMBER) pa_nil)))))), ?_⟩
    repeat walk_at "s"
    exact ⟨_, _, _, rfl, h⟩
theorem ok_is_name (T : Txt P K mg A D) : FnOk P w K mg base CX0 1 A.is_name D.is_name ["value"] (spIsName K) := by
  refine T.f_is_name.ok sc_is_name (fun vs H Q E h => ?_) (fun cdv Ar outer s H vs Q E hr h => ?_)
  · obtain ⟨x, rfl, _⟩ := h
    rfl
  · obtain ⟨x, rfl, h⟩ := h
    refine ⟨_, (pss_cons (ps_if (PW.pt (pw_or (pt_not (pt_val (pe_callB call_isi rfl T.n_isinstance bt_isinstance (pa_cons (pv 0) (pa_cons (pe_bltn (v := .ty "str") rfl T.n_str bt_str rfl) pa_nil))))) (pw_or1 (pt_not (pt_chain op_le op_le pe_int (pe_callB call_len_str rfl T.n_len bt_len (pa_cons (pv 0) pa_nil)) pe_int))))) (pss_one (ps_ret pe_bl)) pss_nil) (pss_one (ps_ret (pe_callB (cr_all rfl) rfl T.n_all bt_all (pa_cons (pe_lc (own := [("sign", 1)]) (g := gName 1) (by rfl) sc_is_name.nd (pi_str (pv 0)) (blkOk_by (own := [("sign", 1)]) (N := ["value", "sign"]) (sc := defScope s_is_name) (by decide +kernel)) (fun _ _ _ _ _ => pg_name (i := 1) sc_is_name.nd rfl (Or.inl rfl)) (fun _ _ _ _ _ => pts_nil) (fun _ _ _ _ _ => (pe_cmpR op_in_str (pv 1) (pe_gs rfl T.g_LETTERS) rfl))) pa_nil))))), ?_⟩
    rcases h with ⟨z, rfl, hz, q⟩ | ⟨⟨t, ty, hk⟩, q⟩
    · repeat walk_at "s"
      refine ⟨_, _, _, _, _, rfl, .ty _, .base (.str z), kit_self, ?_⟩
      repeat walk_at "s"
      refine ⟨z, rfl, Nat.le_trans hz (by decide), ?_⟩
      repeat walk_at "s"
      have hfin : ∀ H', Same H H' → Q (.bl (isName z)) H' := q
      refine ite_d (fun h1 => ?_) fun h1 => ?_
      · repeat walk_at "s"
        refine ite_d (fun h2 => ?_) fun h2 => ?_
        · repeat walk_at "s"
          refine t_lcS ?_
          repeat walk_at "s"
          refine ⟨z, rfl, fun d hd => ?_⟩
          refine lcS_map (f := fun c => .bl (isLet c)) hz (fun c R l hR => ?_) ?_
          · repeat walk_at "s"
            refine ⟨rfl, ?_⟩
            repeat walk_at "s"
            exact ⟨_, _, rfl, rfl, hR _⟩
          · repeat walk_at "s"
            refine ⟨d, z.cps.toList.map isLet, rfl, .inl (.inl (by rw [upd_same, List.map_map]; rfl)), ?_⟩
            have e : isName z = (List.map isLet z.cps.toList).all id := by
              unfold isName
              rw [decide_eq_true (⟨by omega, by omega⟩ : 1 ≤ z.length ∧ z.length ≤ 8), Bool.true_and, List.all_map]
              rfl
            rw [← e]
            exact q _ (Same.new hd)
        · repeat walk_at "s"
          have e : isName z = false := by
            unfold isName
            rw [decide_eq_false (show ¬ (1 ≤ z.length ∧ z.length ≤ 8) by omega)]
            rfl
          rw [← e]
          exact q _ (fun _ _ e => e)
      · repeat walk_at "s"
        have e : isName z = false := by
          unfold isName
          rw [decide_eq_false (show ¬ (1 ≤ z.length ∧ z.length ≤ 8) by omega)]
          rfl
        rw [← e]
        exact q _ (fun _ _ e => e)
    · repeat walk_at "s"
      refine ⟨_, _, _, _, _, rfl, .ty _, ty, hk, ?_⟩
      repeat walk_at "s"
      exact q
theorem ok_BadTrip_init (T : Txt P K mg A D) : FnOk P w K mg base CX0 1 A.BadTrip_init D.BadTrip_init ["self", "part"] (spErr1 A.BadTrip "part") :=
  err1_ok T.f_BadTrip_init sc_BadTrip_init rfl rfl rfl T.ms T.op T.er_BadTrip.se T.nf_BadTrip_part
theorem ok_pen (T : Txt P K mg A D) : FnOk P w K mg base CX0 1 A.pen D.pen ["_law_script"] (spPen K) := by
  refine T.f_pen.ok sc_pen (fun vs H Q E h => ?_) (fun cdv Ar outer s H vs Q E hr h => ?_)
  · obtain ⟨a, ns, rfl, _⟩ := h
    rfl
  · obtain ⟨a, ns, rfl, hS, hn, q⟩ := h
    refine ⟨_, (pss_one (ps_ret (pe_lst (pa_cons (pe_callTy call_list_of rfl T.n_list bt_list (pa_cons (pe_slice sl_list (pv 0) po_none (po_some pe_int)) pa_nil)) (pa_cons pe_int (pa_cons pe_int pa_nil)))))), ?_⟩
    repeat walk_at "s"
    refine ⟨a, _, rfl, hS, fun l hl => ?_⟩
    repeat walk_at "s"
    refine ⟨l, _, rfl, .inl (.inl (.inl upd_same)), fun m hm => ?_⟩
    repeat walk_at "s"
    refine ⟨lst_ok rfl, fun p hp => ?_⟩
    have hl2 : H m = none := (Same.new hl).free hm
    have hp2 := (Same.new hm).free hp
    rw [cut63 hn] at hm hp hp2 ⊢
    have S1 := Same.new (o := .lst (ns.map V.int)) hl
    have S2 := Same.new (o := .lst (ns.map V.int)) hm
    have S3 := Same.new (o := .lst [.ref m, .int 0, .int 0]) hp
    exact q p _ ((S1.trans S2).trans S3) (S1.free hp2) ⟨m, ns, 0, 0, upd_same, ne_of_none upd_same hp, S3 _ _ upd_same, by decide, by decide, by decide, hn⟩
theorem ok_drawL (T : Txt P K mg A D) : FnOk P w K mg base CX0 1 A.draw D.draw ["_law_pen_here", "_law_many"] spDrawL := by
  refine T.f_draw.ok sc_draw (fun vs H Q E h => ?_) (fun cdv Ar outer s H vs Q E hr h => ?_)
  · obtain ⟨p, l, many, n, rfl, _⟩ := h
    rfl
  · obtain ⟨p, l, many, n, rfl, h0, h1, ⟨cells, spot, great, hp, ne, hl, s0, s1, g0, c0⟩, q⟩ := h
    refine ⟨_, (pss_cons (ps_if (pt_cmpR op_gt (pe_ix ix_list (pv 0) pe_int (fun _ _ => rfl)) pe_int (nomark _)) (pss_cons (ps_set (i := 5) sc_draw.nd rfl (Or.inl rfl) (pe_op op_mod (pe_callTy call_int1 rfl T.n_int bt_int (pa_cons (pe_ix ix_list (pv 0) pe_int (fun _ _ => rfl)) pa_nil)) (pv 1))) (pss_cons (ps_asg (pe_op op_fdivW (pe_callTy call_int1 rfl T.n_int bt_int (pa_cons (pe_ix ix_list (pv 0) pe_int (fun _ _ => rfl)) pa_nil)) (pv 1)) (pg_sub (pv 0) pe_int set_list)) (pss_one (ps_ret (pv 5))))) pss_nil) (pss_cons (ps_set (i := 2) sc_draw.nd rfl (Or.inl rfl) (pe_ix ix_list (pv 0) pe_int (fun _ _ => rfl))) (pss_cons (ps_asg (pe_op op_add (pv 2) pe_int) (pg_sub (pv 0) pe_int set_list)) (pss_cons (ps_set (i := 3) sc_draw.nd rfl (Or.inl rfl) (pe_op op_add (pe_op op_mul pe_int (pv 2)) pe_int)) (Evl.pss_cut (ps_if (pt_cmpR (op_neD hr.units) (pe_ix ix_list (pv 0) pe_int (fun _ _ => rfl)) (pe_lst pa_nil) (nomark _)) (pss_one (ps_set (i := 3) sc_draw.nd rfl (Or.inl rfl) (pe_ix ix_list (pe_ix ix_list (pv 0) pe_int (fun _ _ => rfl)) (pe_op op_mod (pe_callTy call_int1 rfl T.n_int bt_int (pa_cons (pv 2) pa_nil)) (pe_callB call_len_seq rfl T.n_len bt_len (pa_cons (pe_ix ix_list (pv 0) pe_int (fun _ _ => rfl)) pa_nil))) (fun _ _ => rfl)))) pss_nil) (pss_cons (ps_if (PW.pt (pw_and (pt_cmpR op_lt (pv 2) (pe_callB call_len_seq rfl T.n_len bt_len (pa_cons (pe_ix ix_list (pv 0) pe_int (fun _ _ => rfl)) pa_nil)) (nomark _)) (pw_and1 (pt_cmpR op_ge (pe_callB call_abs rfl T.n_abs bt_abs (pa_cons (pv 3) pa_nil)) (pe_op op_pow pe_int pe_int) (nomark _))))) (pss_cons (ps_set (i := 6) sc_draw.nd rfl (Or.inl rfl) (pe_op op_add (pe_op op_mul pe_int (pe_op op_sub (pe_callB call_abs rfl T.n_abs bt_abs (pa_cons (pv 3) pa_nil)) (pe_op op_pow pe_int pe_int))) (pe_callTy call_int1 rfl T.n_int bt_int (pa_cons (pe_cmpR op_lt (pv 3) pe_int (nomark _)) pa_nil)))) (pss_cons (ps_asg (pe_op op_fdivW (pe_callTy call_int1 rfl T.n_int bt_int (pa_cons (pv 6) pa_nil)) (pv 1)) (pg_sub (pv 0) pe_int set_list)) (pss_one (ps_ret (pe_op op_mod (pe_callTy call_int1 rfl T.n_int bt_int (pa_cons (pv 6) pa_nil)) (pv 1)))))) pss_nil) (pss_cons (ps_set (i := 4) sc_draw.nd rfl (Or.inl rfl) (pe_op op_mod (pe_callTy call_int1 rfl T.n_int bt_int (pa_cons (pe_op op_pow (pe_op op_add (pe_op op_add (pe_op op_mod (pe_callTy call_int1 rfl T.n_int bt_int (pa_cons (pv 3) pa_nil)) pe_int) (pe_op op_mul pe_int (pv 2))) pe_int) pe_int) pa_nil)) pe_int)) (pss_cons (ps_set (i := 4) sc_draw.nd rfl (Or.inl rfl) (pe_op op_mod (pe_callTy call_int1 rfl T.n_int bt_int (pa_cons (pe_op op_pow (pe_op op_add (pe_op op_add (pe_op op_mul (pv 4) (pe_op op_add (pe_op op_mul pe_int (pv 2)) pe_int)) (pe_op op_mul (pe_op op_mul pe_int (pv 2)) (pv 2))) pe_int) pe_int) pa_nil)) pe_int)) (pss_one (ps_ret (pe_op op_mod (pe_callTy call_int1 rfl T.n_int bt_int (pa_cons (pe_op op_fdivW (pv 4) pe_int) pa_nil)) (pv 1)))))))))))), ?_⟩
    repeat walk_at "s"
    refine r_ixL (.inl (.inl hp)) rfl ?_
    repeat walk_at "s"
    refine ite_d (fun hg => ?_) fun hg => ?_
    · repeat walk_at "s"
      refine r_ixL (.inl (.inl hp)) rfl ?_
      repeat walk_at "s"
      refine r_ixL (.inl (.inl hp)) rfl ?_
      repeat walk_at "s"
      refine r_I (wide_div h0 h1 (by decide) (by decide)) ?_
      repeat walk_at "s"
      refine ⟨p, _, 2, 2, rfl, rfl, hp, rfl, ?_⟩
      repeat walk_at "s"
      refine q _ _ (fun b o n e => by rw [upd_ne n]; exact e) ⟨cells, spot, great / many, upd_same, ne, by rw [upd_ne ne]; exact hl, s0, by omega, Int.ediv_nonneg g0 (by omega), c0⟩ (Int.emod_nonneg _ (by omega)) (Int.emod_lt_of_pos _ h0)
    · repeat walk_at "s"
      refine r_ixL (.inl (.inl hp)) rfl ?_
      repeat walk_at "s"
      refine ⟨p, _, 1, 1, rfl, rfl, hp, rfl, ?_⟩
      have hl' : upd H p (.lst [.ref l, .int (spot + 1), .int great]) l = some (.lst (cells.map V.int)) := by rw [upd_ne ne]; exact hl
      repeat walk_at "s"
      refine t_cut (fun σ' H' => ∃ cell : Int, σ' = [some (.ref p), some (.int many), some (.int spot), some (.int cell), none, none, none] ∧ Go p H H' ∧ H' p = some (.lst [.ref l, .int (spot + 1), .int great]) ∧ H' l = some (.lst (cells.map V.int))) ?_ ?_
      · repeat walk_at "s"
        refine r_ixL (.inl (.inl upd_same)) rfl ?_
        repeat walk_at "s"
        refine ⟨lst_ok rfl, fun z hz => ?_⟩
        have S := Same.new (o := .lst []) hz
        have G : Go p H _ := (Go.set (o := .lst [.ref l, .int (spot + 1), .int great])).trans (Same.go S)
        have hp2 := S _ _ (upd_same (H := H) (a := p) (o := .lst [.ref l, .int (spot + 1), .int great]))
        have hl2 := S _ _ hl'
        refine r_neNil (.inl (.inl hl2)) (.inl (.inl upd_same)) ?_
        repeat walk_at "s"
        cases cells with
        | nil =>
          rw [List.isEmpty_nil]
          repeat walk_at "s"
          exact ⟨_, rfl, G, hp2, hl2⟩
        | cons c0' cr =>
          rw [List.isEmpty_cons]
          repeat walk_at "s"
          refine r_ixL (.inl (.inl hp2)) rfl ?_
          repeat walk_at "s"
          refine r_ixL (.inl (.inl hp2)) rfl ?_
          repeat walk_at "s"
          refine c_len (.inl (.inl (.inl hl2))) ?_
          rw [List.length_map]
          have hb : (0 : Int) < ((c0' :: cr).length : Int) := by simp
          refine r_I hb ?_
          obtain ⟨c, hc⟩ := at_ints (ns := c0' :: cr) (i := spot % ((c0' :: cr).length : Int)) (Int.emod_nonneg _ (by omega)) (Int.emod_lt_of_pos _ hb)
          refine r_ixL (.inl (.inl hl2)) hc ?_
          repeat walk_at "s"
          exact ⟨_, rfl, G, hp2, hl2⟩
      · rintro σ' H' ⟨cell, rfl, G, hp2, hl2⟩
        repeat walk_at "s"
        refine r_ixL (.inl (.inl hp2)) rfl ?_
        repeat walk_at "s"
        refine c_len (.inl (.inl (.inl hl2))) ?_
        repeat walk_at "s"
        have fin : ∀ b : Int, Q (.int (b % many)) H' := fun b => q _ _ G ⟨cells, spot + 1, great, hp2, ne, hl2, by omega, by omega, g0, c0⟩ (Int.emod_nonneg _ (by omega)) (Int.emod_lt_of_pos _ h0)
        refine ite_d (fun hs => ?_) fun hs => ?_
        · repeat walk_at "s"
          refine ite_d (fun hc => ?_) fun hc => ?_
          · repeat walk_at "s"
            refine r_I (wide_div h0 h1 (by decide) (by decide)) ?_
            repeat walk_at "s"
            refine ⟨p, _, 2, 2, rfl, rfl, hp2, rfl, ?_⟩
            repeat walk_at "s"
            have hG : 0 ≤ 2 * ((if cell < 0 then -cell else cell) - 10 ^ Int.toNat 18) + if decide (cell < 0) = true then 1 else 0 := by
              generalize (10 : Int) ^ Int.toNat 18 = X at hc ⊢
              generalize (if cell < 0 then -cell else cell) = Y at hc ⊢
              split <;> omega
            exact q _ _ (G.trans Go.set) ⟨cells, spot + 1, _, upd_same, ne, by rw [upd_ne ne]; exact hl2, by omega, by omega, Int.ediv_nonneg hG (by omega), c0⟩ (Int.emod_nonneg _ (by omega)) (Int.emod_lt_of_pos _ h0)
          · repeat walk_at "s"
            exact fin _
        · repeat walk_at "s"
          exact fin _
theorem ok_draw (T : Txt P K mg A D) : FnOk P w K mg base CX0 1 A.draw D.draw ["_law_pen_here", "_law_many"] spDraw := fn_weak (ok_drawL T) fun _ _ _ _ => draw_weak
theorem ok_pick (T : Txt P K mg A D) : FnOk P w K mg base CX0 2 A.pick D.pick ["_law_pen_here", "_law_some"] (spPick K) := by
  refine T.f_pick.ok sc_pick (fun vs H Q E h => ?_) (fun cdv Ar outer s H vs Q E hr h => ?_)
  · obtain ⟨p, z, xs, n, rfl, _⟩ := h
    rfl
  · obtain ⟨p, z, xs, n, rfl, hz, h0, h1, pen, q⟩ := h
    refine ⟨_, (pss_one (ps_ret (pe_ix ix_list (pv 1) (pe_call (ok_draw T) (hr.mono (by decide)) rfl T.m_draw T.f_draw.kp T.b_draw .nil pass0 (pa_cons (pv 0) (pa_cons (pe_callB call_len_seq rfl T.n_len bt_len (pa_cons (pv 1) pa_nil)) pa_nil))) (fun _ _ => rfl)))), ?_⟩
    repeat walk_at "s"
    refine c_len (.inl (.inl (.inl hz.at_))) ?_
    refine ⟨p, xs.length, n, rfl, by omega, by omega, pen, fun d H' G pen' d0 d1 => ?_⟩
    obtain ⟨v, hv, hm⟩ := at_mem d0 d1
    refine r_ixL (.inl (.inl (hz.go G).at_)) hv ?_
    exact q v H' G pen' hm
end
end Ol

namespace Ol
open PySem L2 LamX
local macro_rules | `(tactic| walk_at "s") => `(tactic| ((first | with_reducible exact True.intro | ((with_reducible refine' t_var ?hv ?_); (case hv => exact rfl)) | with_reducible refine t_c ?_ | with_reducible refine t_op ?_ | with_reducible refine t_cons ?_ | with_reducible refine t_nil ?_ | with_reducible refine t_cb ?_ | with_reducible refine t_call ?_ | with_reducible refine t_ret ?_ | with_reducible refine t_seq ?_ | with_reducible refine t_asg ?_ | with_reducible refine t_name ?_ | with_reducible refine t_ifS ?_ | with_reducible refine t_next ?_ | with_reducible refine t_B ?_ | with_reducible refine t_test ?_ | with_reducible refine t_and ?_ | with_reducible refine t_or ?_ | with_reducible refine t_not ?_ | with_reducible refine t_andV ?_ | with_reducible refine t_orV ?_ | with_reducible refine t_notV ?_ | with_reducible refine t_if ?_ | with_reducible refine t_chain ?_ | with_reducible refine t_un ?_ | with_reducible refine t_meth ?_ | with_reducible refine t_fld ?_ | with_reducible refine t_sfld ?_ | with_reducible refine t_par3 ?_ | with_reducible refine t_for1 ?_ | with_reducible refine t_forL ?_ | with_reducible refine t_forT ?_ | with_reducible refine c_abs ?_ | with_reducible refine t_make ?_ | with_reducible refine ex_par3 ?_ | with_reducible refine t_drop ?_ | with_reducible refine t_retN ?_ | with_reducible refine t_lst ?_ | with_reducible refine t_tup ?_ | with_reducible refine t_par ?_ | with_reducible refine ex_par ?_ | with_reducible refine t_sl ?_ | with_reducible refine t_part ?_ | with_reducible refine t_noPart ?_ | with_reducible refine t_sub ?_ | with_reducible refine ex_bl ?_ | with_reducible refine ex_int ?_ | with_reducible refine r_I0 ?_ | with_reducible refine r_U ?_ | with_reducible refine r_eqI ?_ | with_reducible refine r_neI ?_ | with_reducible refine r_eqB ?_ | with_reducible refine r_neB ?_ | ((with_reducible refine r_I ?hi ?_); (case hi => first | omega | decide | exact .inl ⟨by omega, by omega⟩ | exact .inr ⟨by omega, by omega⟩ | exact ⟨by omega, by omega, by omega⟩ | exact ⟨by decide, by decide⟩ | exact ⟨by decide, by decide, mix_lt (Int.emod_nonneg _ (by decide)) (Int.lt_of_lt_of_le (Int.emod_lt_of_pos _ (by decide)) (by decide)) (by omega) (by omega) (by decide) (by decide) (by decide) (by decide) (by decide) (by decide)⟩ | exact .inl ⟨Int.lt_of_lt_of_le (by decide) (Int.emod_nonneg _ (by decide)), Int.lt_trans (Int.emod_lt_of_pos _ (by decide)) (by decide)⟩)) | with_reducible refine c_int1 ?_ | with_reducible refine c_intB ?_ | with_reducible refine iteT ?_ | with_reducible refine iteF ?_ | with_reducible refine ite_n ?_ | ((with_reducible refine ite_y ?hc ?_); (case hc => first | omega | decide)) | ((with_reducible refine ite_f ?hc ?_); (case hc => first | omega | decide))); try dsimp only))

section
variable {P : Program} {w : World} {K : PySem.W.Frag} {mg : Str → Option Value} {base : Heap} {A : Ad} {D : Fd}
theorem ok_Trip_init (T : Txt P K mg A D) : FnOk P w K mg base (L2.CX P w) 4 A.Trip_init D.Trip_init ["self", "name", "start", "leaves", "takes", "goal"] (spTrip K A.BadTrip) := by
  refine T.f_Trip_init.okX sc_Trip_init (fun vs H Q E h => ?_) (fun cdv Ar outer s H vs Q E hr h => ?_)
  · obtain ⟨a, C, dx, n, s, l, t, g, bn, bs, bl, bt, bg, rfl, _⟩ := h
    rfl
  · obtain ⟨a, C, dx, n, s, l, t, g, bn, bs, bl, bt, bg, rfl, ha, tc, pa, bad, q⟩ := h
    refine ⟨_, (pss_cons (ps_if (pt_not (pt_val (pe_call (ok_is_name T) (hr.mono (by decide)) rfl T.m_is_name T.f_is_name.kp T.b_is_name .nil pass0 (pa_cons (pv 1) pa_nil)))) (pss_one (ps_raise rfl (takes_of rfl rfl rfl rfl) (pmk_oex T.er_BadTrip.se.oex T.er_BadTrip.iC T.er_BadTrip.tI (ok_BadTrip_init T) (hr.mono (by decide)) T.b_BadTrip_init .nil pass0 rfl T.m_BadTrip (pa_cons pe_str pa_nil)))) pss_nil) (pss_cons (ps_if (PW.pt (pw_or (pt_not (pt_val (pe_call (ok_is_name T) (hr.mono (by decide)) rfl T.m_is_name T.f_is_name.kp T.b_is_name .nil pass0 (pa_cons (pv 2) pa_nil)))) (pw_or1 (pt_not (pt_val (pe_call (ok_is_name T) (hr.mono (by decide)) rfl T.m_is_name T.f_is_name.kp T.b_is_name .nil pass0 (pa_cons (pv 5) pa_nil))))))) (pss_one (ps_raise rfl (takes_of rfl rfl rfl rfl) (pmk_oex T.er_BadTrip.se.oex T.er_BadTrip.iC T.er_BadTrip.tI (ok_BadTrip_init T) (hr.mono (by decide)) T.b_BadTrip_init .nil pass0 rfl T.m_BadTrip (pa_cons pe_str pa_nil)))) pss_nil) (pss_cons (ps_if (pt_not (pt_val (pe_call (ok_is_number T) (hr.mono (by decide)) rfl T.m_is_number T.f_is_number.kp T.b_is_number .nil pass0 (pa_cons (pv 3) pa_nil)))) (pss_one (ps_raise rfl (takes_of rfl rfl rfl rfl) (pmk_oex T.er_BadTrip.se.oex T.er_BadTrip.iC T.er_BadTrip.tI (ok_BadTrip_init T) (hr.mono (by decide)) T.b_BadTrip_init .nil pass0 rfl T.m_BadTrip (pa_cons pe_str pa_nil)))) pss_nil) (pss_cons (ps_if (pt_not (pt_val (pe_call (ok_is_between T) (hr.mono (by decide)) rfl T.m_is_between T.f_is_between.kp T.b_is_between .nil pass0 (pa_cons (pv 4) (pa_cons pe_int (pa_cons (pe_gi rfl T.g_MOST_NUMBER) pa_nil)))))) (pss_one (ps_raise rfl (takes_of rfl rfl rfl rfl) (pmk_oex T.er_BadTrip.se.oex T.er_BadTrip.iC T.er_BadTrip.tI (ok_BadTrip_init T) (hr.mono (by decide)) T.b_BadTrip_init .nil pass0 rfl T.m_BadTrip (pa_cons pe_str pa_nil)))) pss_nil) (pss_cons (ps_fld (pv 0) (pv 1) rfl) (pss_cons (ps_fld (pv 0) (pv 2) rfl) (pss_cons (ps_fld (pv 0) (pv 3) rfl) (pss_cons (ps_fld (pv 0) (pv 4) rfl) (pss_one (ps_fld (pv 0) (pv 5) rfl)))))))))), ?_⟩
    repeat walk_at "s"
    refine s_name pa.n fun H1 S1 => ?_
    have pa1 := pa.same S1
    repeat walk_at "s"
    have rz : ∀ (wd : Str) (H' : Hp) (σ : L2.St), dueOf bn bs bl bt bg = some wd → Same H H' → tMkO A.BadTrip (spErr1 A.BadTrip "part") [] (tCons (tC (V.str wd)) tNil) σ H' fun cls d H' => E cls d H' := fun wd H' σ hw S => raise1 (bad wd hw H' S)
    cases bn with
    | false =>
      repeat walk_at "s"
      exact rz _ _ _ rfl S1
    | true =>
      repeat walk_at "s"
      refine s_name pa1.s fun H2 S2 => ?_
      have pa2 := pa1.same S2
      repeat walk_at "s"
      cases bs with
      | false =>
        repeat walk_at "s"
        exact rz _ _ _ rfl (S1.trans S2)
      | true =>
        repeat walk_at "s"
        refine s_name pa2.g fun H3 S3 => ?_
        have pa3 := pa2.same S3
        have S03 := (S1.trans S2).trans S3
        repeat walk_at "s"
        cases bg with
        | false =>
          repeat walk_at "s"
          exact rz _ _ _ rfl S03
        | true =>
          repeat walk_at "s"
          refine s_number pa3.l ?_
          repeat walk_at "s"
          cases bl with
          | false =>
            repeat walk_at "s"
            exact rz _ _ _ rfl S03
          | true =>
            repeat walk_at "s"
            refine s_between pa3.t ?_
            repeat walk_at "s"
            cases bt with
            | false =>
              repeat walk_at "s"
              exact rz _ _ _ rfl S03
            | true =>
              repeat walk_at "s"
              refine ⟨a, C, dx, _, rfl, S03 _ _ ha, tc.cl, tc.name, by decide, ?_⟩
              repeat walk_at "s"
              refine ⟨a, C, dx, _, rfl, upd_same, tc.cl, tc.start, Nat.le_of_ble_eq_true rfl, ?_⟩
              repeat walk_at "s"
              refine ⟨a, C, dx, _, rfl, upd_same, tc.cl, tc.leaves, Nat.le_of_ble_eq_true rfl, ?_⟩
              repeat walk_at "s"
              refine ⟨a, C, dx, _, rfl, upd_same, tc.cl, tc.takes, Nat.le_of_ble_eq_true rfl, ?_⟩
              repeat walk_at "s"
              refine ⟨a, C, dx, _, rfl, upd_same, tc.cl, tc.goal, Nat.le_of_ble_eq_true rfl, ?_⟩
              have e : ∀ (H' : Hp) (o1 o2 : HO), upd (upd H' a o1) a o2 = upd H' a o2 := fun H' o1 o2 => by
                funext b
                by_cases hb : b = a
                · rw [hb, upd_same, upd_same]
                · rw [upd_ne hb, upd_ne hb, upd_ne hb]
              rw [e, e, e, e]
              exact q rfl _ S03
theorem ok_Run_init (T : Txt P K mg A D) : FnOk P w K mg base (L2.CX P w) 5 A.Run_init D.Run_init ["self", "name", "start", "leaves", "takes", "goal"] (spRun K A.Run A.BadTrip) := by
  refine FunS.okO T.f_Run_init sc_Run_init rfl rfl rfl rfl T.ms T.op (fun vs H Q E h => ?_) (ok_Trip_init T) (Nat.le_refl _) T.b_Trip_init T.ff_Trip_init T.fi_Trip_init (fun cda cc Ar outer s H vs Q E hr h => ?_)
  · obtain ⟨a, dx, n, s, l, t, g, rfl, _⟩ := h
    rfl
  · obtain ⟨a, dx, n, s, l, t, g, rfl, ha, h⟩ := h
    refine ⟨a, A.Run, dx, _, _, rfl, T.so_Run, ha, (pa_cons (pv 1) (pa_cons (pv 2) (pa_cons (pv 3) (pa_cons (pv 4) (pa_cons (pv 5) pa_nil))))), ?_⟩
    repeat walk_at "s"
    obtain ⟨a', C, dx', n', s', l', t', g', bn, bs, bl, bt, bg, e, h1, h2, h3, h4, h5⟩ := h
    exact ⟨a', C, dx', n', s', l', t', g', bn, bs, bl, bt, bg, e, h1, h2, h3, h4, h5⟩
theorem ok_Stay_init (T : Txt P K mg A D) : FnOk P w K mg base (L2.CX P w) 5 A.Stay_init D.Stay_init ["self", "name", "place", "leaves", "takes"] (spStay K A.Stay A.BadTrip) := by
  refine FunS.okO T.f_Stay_init sc_Stay_init rfl rfl rfl rfl T.ms T.op (fun vs H Q E h => ?_) (ok_Trip_init T) (Nat.le_refl _) T.b_Trip_init T.ff_Trip_init T.fi_Trip_init (fun cda cc Ar outer s H vs Q E hr h => ?_)
  · obtain ⟨a, dx, n, s, l, t, rfl, _⟩ := h
    rfl
  · obtain ⟨a, dx, n, s, l, t, rfl, ha, h⟩ := h
    refine ⟨a, A.Stay, dx, _, _, rfl, T.so_Stay, ha, (pa_cons (pv 1) (pa_cons (pv 2) (pa_cons (pv 3) (pa_cons (pv 4) (pa_cons (pv 2) pa_nil))))), ?_⟩
    repeat walk_at "s"
    obtain ⟨a', C, dx', n', s', l', t', g', bn, bs, bl, bt, bg, e, h1, h2, h3, h4, h5⟩ := h
    exact ⟨a', C, dx', n', s', l', t', g', bn, bs, bl, bt, bg, e, h1, h2, h3, h4, h5⟩
end
end Ol

namespace Ol
open PySem L2 LamX
local macro_rules | `(tactic| walk_at "s") => `(tactic| ((first | with_reducible exact True.intro | ((with_reducible refine' t_var ?hv ?_); (case hv => exact rfl)) | with_reducible refine t_c ?_ | with_reducible refine t_op ?_ | with_reducible refine t_cons ?_ | with_reducible refine t_nil ?_ | with_reducible refine t_cb ?_ | with_reducible refine t_call ?_ | with_reducible refine t_ret ?_ | with_reducible refine t_seq ?_ | with_reducible refine t_asg ?_ | with_reducible refine t_name ?_ | with_reducible refine t_ifS ?_ | with_reducible refine t_next ?_ | with_reducible refine t_B ?_ | with_reducible refine t_test ?_ | with_reducible refine t_and ?_ | with_reducible refine t_or ?_ | with_reducible refine t_not ?_ | with_reducible refine t_andV ?_ | with_reducible refine t_orV ?_ | with_reducible refine t_notV ?_ | with_reducible refine t_if ?_ | with_reducible refine t_chain ?_ | with_reducible refine t_un ?_ | with_reducible refine t_meth ?_ | with_reducible refine t_fld ?_ | with_reducible refine t_sfld ?_ | with_reducible refine t_par3 ?_ | with_reducible refine t_for1 ?_ | with_reducible refine t_forL ?_ | with_reducible refine t_forT ?_ | with_reducible refine c_abs ?_ | with_reducible refine t_make ?_ | with_reducible refine ex_par3 ?_ | with_reducible refine t_drop ?_ | with_reducible refine t_retN ?_ | with_reducible refine t_lst ?_ | with_reducible refine t_tup ?_ | with_reducible refine t_par ?_ | with_reducible refine ex_par ?_ | with_reducible refine t_sl ?_ | with_reducible refine t_part ?_ | with_reducible refine t_noPart ?_ | with_reducible refine t_sub ?_ | with_reducible refine ex_bl ?_ | with_reducible refine ex_int ?_ | with_reducible refine r_I0 ?_ | with_reducible refine r_U ?_ | with_reducible refine r_eqI ?_ | with_reducible refine r_neI ?_ | with_reducible refine r_eqB ?_ | with_reducible refine r_neB ?_ | ((with_reducible refine r_I ?hi ?_); (case hi => first | omega | decide | exact .inl ⟨by omega, by omega⟩ | exact .inr ⟨by omega, by omega⟩ | exact ⟨by omega, by omega, by omega⟩ | exact ⟨by decide, by decide⟩ | exact ⟨by decide, by decide, mix_lt (Int.emod_nonneg _ (by decide)) (Int.lt_of_lt_of_le (Int.emod_lt_of_pos _ (by decide)) (by decide)) (by omega) (by omega) (by decide) (by decide) (by decide) (by decide) (by decide) (by decide)⟩ | exact .inl ⟨Int.lt_of_lt_of_le (by decide) (Int.emod_nonneg _ (by decide)), Int.lt_trans (Int.emod_lt_of_pos _ (by decide)) (by decide)⟩)) | with_reducible refine c_int1 ?_ | with_reducible refine c_intB ?_ | with_reducible refine iteT ?_ | with_reducible refine iteF ?_ | with_reducible refine ite_n ?_ | ((with_reducible refine ite_y ?hc ?_); (case hc => first | omega | decide)) | ((with_reducible refine ite_f ?hc ?_); (case hc => first | omega | decide))); try dsimp only))

section
variable {P : Program} {w : World} {K : PySem.W.Frag} {mg : Str → Option Value} {base : Heap} {A : Ad} {D : Fd}
/-- what heard makes of a call -/
def THeard (BT : Addr) : (XK → Hp → VK → Prop) → Hp → VK → Prop := fun tl H Q => ∀ (Ech : XK) (Qc : VK), (∀ v dd H', H' dd = some (.xd [("part", v)]) → (∀ H'', Same H' H'' → Q v H'') → Ech (.ref BT) (some dd) H') → (∀ v H1, Q .non H1 → Qc v H1) → tl Ech H Qc
theorem gives_heard {X : Cx} {cdg : Value} (T : Txt P X.K X.mg A D) : GivesTo X ["_law_ask", "_law_caught", "error"] "_law_heard" (defScope s_heard) A.heard cdg (defBody s_heard) "_law_ask" (X.env.qual ++ "<lambda>") (THeard A.BadTrip) := by
  intro f c' s H Q tl act hc h
  refine ⟨_, pss_cons (ps_set (i := 1) sc_heard.nd rfl (Or.inl rfl) pe_non) (pss_cons (ps_try_keep (X := (cxOf C8.CX0 X.prog X.w X.K X.mg X.base ["_law_ask", "_law_caught", "error"] "_law_heard" (defScope s_heard) A.heard cdg X.A X.stack s H C8.E0).nox) (c := .ref A.TurnError) (i := 2)
      (tb := fun W D σ H => ∃ Ech : XK, (∀ cls d σ' H', Ech cls d H' → σ'.length = 3 → W cls d σ' H') ∧ σ[0]? = some (some (.ref f)) ∧ H c' = some (CodeO c' (X.env.qual ++ "<lambda>")) ∧ tl Ech H (fun _ H1 => D.nx σ H1))
      rfl rfl rfl sc_heard.nd rfl rfl ⟨rfl, by decide, .inl T.m_TurnError⟩ L2.takes0 (fun W pn xe tk _ => ?_) (fun a oe cls d pn _ _ => pss_one (ps_set (i := 1) sc_heard.nd rfl (Or.inl rfl) (pv 2))))
    (pss_cons (ps_if (pt_cmpR op_isN (pv 1) pe_non (nomark _)) (pss_one (ps_ret pe_non)) pss_nil) (pss_cons (ps_if (PW.pt (pw_or (pt_not (pt_val (pe_callB call_isV rfl T.n_isinstance bt_isinstance (pa_cons (pv 1) (pa_cons (pe_glob (v := .ref A.BadTrip) rfl T.m_BadTrip rfl) pa_nil))))) (pw_or (pt_not (pt_val (pe_callB call_isV rfl T.n_isinstance bt_isinstance (pa_cons (pv 1) (pa_cons (pe_glob (v := .ref A.BadInput) rfl T.m_BadInput rfl) pa_nil))))) (pw_or1 (pt_val (pe_callB call_isV rfl T.n_isinstance bt_isinstance (pa_cons (pv 1) (pa_cons (pe_glob (v := .ref A.Refused) rfl T.m_Refused rfl) pa_nil)))))))) (pss_one (ps_ret pe_str)) pss_nil) (pss_one (ps_ret (pe_ifExp (pt_val (pe_callB call_isV rfl T.n_isinstance bt_isinstance (pa_cons (pv 1) (pa_cons (pe_bltn (v := .ty "ValueError") rfl T.n_ValueError bt_ValueError rfl) pa_nil)))) (pe_fldE (pv 1)) pe_str)))))), ?_⟩
  · refine ⟨fun pins s' σ H' D I h' => ?_⟩
    obtain ⟨Ech, hW, h1, h2, h3⟩ := h'
    exact (pss_one (ps_expr (act _ pn xe Ech _ _ (takes_len tk) hW))).run pins s' σ H' D I ⟨h1, h2, h3⟩
  · repeat walk_at "s"
    refine ⟨_, fun cls d σ' H' hE hl => hE σ' hl, rfl, hc, h (fun cls d H' => ∀ σ' : L2.St, σ'.length = 3 → _) _ (fun v dd H' hd hq σ' hl => ?_) fun v H1 q => ?_⟩
    · match σ', hl with
      | [x0, x1, x2], _ =>
        refine ⟨true, PySem.W.exm_ref T.te_1 T.te_2 T.te_3 T.te_4, fun _ => ⟨A.BadTrip, rfl, fun a ha => ?_⟩, fun z => by cases z⟩
        have S := Same.new (o := exv a A.BadTrip (some dd)) ha
        have er : ErrAt (upd H' a (exv a A.BadTrip (some dd))) a A.BadTrip [("part", v)] := ⟨dd, upd_same, S _ _ hd⟩
        repeat walk_at "s"
        refine ⟨ha, ?_⟩
        repeat walk_at "s"
        refine ⟨rfl, ?_⟩
        repeat walk_at "s"
        refine ite_f (fun z => by cases z) ?_
        repeat walk_at "s"
        refine ⟨a, A.BadTrip, _, _, _, rfl, er.o, T.er_BadTrip.ex, .own _, T.kx_bt, ?_⟩
        repeat walk_at "s"
        refine ⟨a, A.BadTrip, _, _, _, rfl, er.o, T.er_BadTrip.ex, .own _, T.kx_bi, ?_⟩
        repeat walk_at "s"
        refine ⟨a, A.BadTrip, _, _, _, rfl, er.o, T.er_BadTrip.ex, .own _, T.kx_re, ?_⟩
        repeat walk_at "s"
        refine ⟨a, A.BadTrip, _, _, _, rfl, er.o, T.er_BadTrip.ex, .ty _, T.kx_ve, ?_⟩
        repeat walk_at "s"
        refine t_fldE ?_
        repeat walk_at "s"
        exact ⟨a, A.BadTrip, _, v, rfl, er, T.er_BadTrip.xf, T.nf_BadTrip_part, rfl, hq _ S⟩
    · repeat walk_at "s"
      refine ⟨rfl, ?_⟩
      repeat walk_at "s"
      exact q
end
end Ol

namespace Ol
open PySem L2 LamX
local macro_rules | `(tactic| walk_at "s") => `(tactic| ((first | with_reducible exact True.intro | ((with_reducible refine' t_var ?hv ?_); (case hv => exact rfl)) | with_reducible refine t_c ?_ | with_reducible refine t_op ?_ | with_reducible refine t_cons ?_ | with_reducible refine t_nil ?_ | with_reducible refine t_cb ?_ | with_reducible refine t_call ?_ | with_reducible refine t_ret ?_ | with_reducible refine t_seq ?_ | with_reducible refine t_asg ?_ | with_reducible refine t_name ?_ | with_reducible refine t_ifS ?_ | with_reducible refine t_next ?_ | with_reducible refine t_B ?_ | with_reducible refine t_test ?_ | with_reducible refine t_and ?_ | with_reducible refine t_or ?_ | with_reducible refine t_not ?_ | with_reducible refine t_andV ?_ | with_reducible refine t_orV ?_ | with_reducible refine t_notV ?_ | with_reducible refine t_if ?_ | with_reducible refine t_chain ?_ | with_reducible refine t_un ?_ | with_reducible refine t_meth ?_ | with_reducible refine t_fld ?_ | with_reducible refine t_sfld ?_ | with_reducible refine t_par3 ?_ | with_reducible refine t_for1 ?_ | with_reducible refine t_forL ?_ | with_reducible refine t_forT ?_ | with_reducible refine c_abs ?_ | with_reducible refine t_make ?_ | with_reducible refine ex_par3 ?_ | with_reducible refine t_drop ?_ | with_reducible refine t_retN ?_ | with_reducible refine t_lst ?_ | with_reducible refine t_tup ?_ | with_reducible refine t_par ?_ | with_reducible refine ex_par ?_ | with_reducible refine t_sl ?_ | with_reducible refine t_part ?_ | with_reducible refine t_noPart ?_ | with_reducible refine t_sub ?_ | with_reducible refine ex_bl ?_ | with_reducible refine ex_int ?_ | with_reducible refine r_I0 ?_ | with_reducible refine r_U ?_ | with_reducible refine r_eqI ?_ | with_reducible refine r_neI ?_ | with_reducible refine r_eqB ?_ | with_reducible refine r_neB ?_ | ((with_reducible refine r_I ?hi ?_); (case hi => first | omega | decide | exact .inl ⟨by omega, by omega⟩ | exact .inr ⟨by omega, by omega⟩ | exact ⟨by omega, by omega, by omega⟩ | exact ⟨by decide, by decide⟩ | exact ⟨by decide, by decide, mix_lt (Int.emod_nonneg _ (by decide)) (Int.lt_of_lt_of_le (Int.emod_lt_of_pos _ (by decide)) (by decide)) (by omega) (by omega) (by decide) (by decide) (by decide) (by decide) (by decide) (by decide)⟩ | exact .inl ⟨Int.lt_of_lt_of_le (by decide) (Int.emod_nonneg _ (by decide)), Int.lt_trans (Int.emod_lt_of_pos _ (by decide)) (by decide)⟩)) | with_reducible refine c_int1 ?_ | with_reducible refine c_intB ?_ | with_reducible refine iteT ?_ | with_reducible refine iteF ?_ | with_reducible refine ite_n ?_ | ((with_reducible refine ite_y ?hc ?_); (case hc => first | omega | decide)) | ((with_reducible refine ite_f ?hc ?_); (case hc => first | omega | decide))); try dsimp only))

section
variable {P : Program} {w : World} {K : PySem.W.Frag} {mg : Str → Option Value} {base : Heap} {A : Ad} {D : Fd}
def spNoName : Sp := fun vs H Q _ => ∃ (p : Addr) (n : Nat), vs = [.ref p] ∧ Pen p H (n + 1) ∧ ∀ (x : V) (H' : Hp), Go p H H' → Pen p H' n → OddV p H' x → nameB x = false → Q x H'
theorem ok_no_name (T : Txt P K mg A D) : FnOk P w K mg base CX0 3 A.no_name D.no_name ["_law_pen_here"] spNoName := by
  refine T.f_no_name.ok sc_no_name (fun vs H Q E h => ?_) (fun cdv Ar outer s H vs Q E hr h => ?_)
  · obtain ⟨p, n, rfl, _⟩ := h
    rfl
  · obtain ⟨p, n, rfl, pen, q⟩ := h
    refine ⟨_, (pss_one (ps_ret (pe_call (ok_pick T) (hr.mono (by decide)) rfl T.m_pick T.f_pick.kp T.b_pick .nil pass0 (pa_cons (pv 0) (pa_cons (pe_lst (pa_cons pe_str (pa_cons pe_str (pa_cons pe_str (pa_cons pe_str (pa_cons pe_str (pa_cons pe_non (pa_cons pe_int (pa_cons pe_bl (pa_cons (pe_tup (pa_cons pe_str pa_nil)) (pa_cons (pe_lst (pa_cons pe_str pa_nil)) (pa_cons pe_dnewK (pa_cons pe_str (pa_cons pe_str pa_nil)))))))))))))) pa_nil))))), ?_⟩
    repeat walk_at "s"
    refine ⟨lst_ok rfl, fun t1 ht1 => ?_⟩
    repeat walk_at "s"
    refine ⟨lst_ok rfl, fun l1 hl1 => ?_⟩
    repeat walk_at "s"
    refine t_dnew fun d1 hd1 => ?_
    repeat walk_at "s"
    refine ⟨lst_ok rfl, fun z hz => ?_⟩
    have S1 := Same.new (o := .tup [.str "a"]) ht1
    have S2 := Same.new (o := .lst [.str "a"]) hl1
    have S3 := Same.new (o := .dK []) hd1
    have pen1 := pen.same S1
    have pen2 := pen1.same S2
    have pen3 := pen2.same S3
    refine ⟨p, z, _, n, rfl, pen3.at hz, by simp, by simp, pen3.new hz, fun v H4 G4 pen4 hv => ?_⟩
    have G := (Go.new (p := p) (o := .lst [.str "", .str "A", .str "abcdefghi", .str "a1", .str "a b", .non, .int 0, .bl true, .ref t1, .ref l1, .ref d1, .str "a\n", .str "-"]) hz).trans G4
    have a1 : At p H4 t1 (.tup [.str "a"]) := ((At.go ⟨pen.ne ht1, upd_same⟩ (Same.go (S2.trans S3))).go G)
    have a2 : At p H4 l1 (.lst [.str "a"]) := ((At.go ⟨pen1.ne hl1, upd_same⟩ (Same.go S3)).go G)
    have a3 : At p H4 d1 (.dK []) := At.go ⟨pen2.ne hd1, upd_same⟩ G
    have hx : OddV p H4 v ∧ nameB v = false := by
      simp only [List.mem_cons, List.not_mem_nil, or_false] at hv
      rcases hv with rfl | rfl | rfl | rfl | rfl | rfl | rfl | rfl | rfl | rfl | rfl | rfl | rfl
      · exact ⟨Nat.le_of_ble_eq_true rfl, by decide +kernel⟩
      · exact ⟨Nat.le_of_ble_eq_true rfl, by decide +kernel⟩
      · exact ⟨Nat.le_of_ble_eq_true rfl, by decide +kernel⟩
      · exact ⟨Nat.le_of_ble_eq_true rfl, by decide +kernel⟩
      · exact ⟨Nat.le_of_ble_eq_true rfl, by decide +kernel⟩
      · exact ⟨trivial, rfl⟩
      · exact ⟨trivial, rfl⟩
      · exact ⟨trivial, rfl⟩
      · exact ⟨⟨a1.ne, .inr (.inl ⟨_, a1.at_⟩)⟩, rfl⟩
      · exact ⟨⟨a2.ne, .inl ⟨_, a2.at_⟩⟩, rfl⟩
      · exact ⟨⟨a3.ne, .inr (.inr ⟨_, a3.at_⟩)⟩, rfl⟩
      · exact ⟨Nat.le_of_ble_eq_true rfl, by decide +kernel⟩
      · exact ⟨Nat.le_of_ble_eq_true rfl, by decide +kernel⟩
    exact q v H4 ((Same.go ((S1.trans S2).trans S3)).trans G) pen4 hx.1 hx.2
def spNoNum : Sp := fun vs H Q _ => ∃ (p : Addr) (fw lo : Int) (n : Nat), vs = [.ref p, .int fw] ∧ 0 ≤ lo ∧ fw < lo ∧ Pen p H (n + 1) ∧ ∀ (x : V) (H' : Hp), Go p H H' → Pen p H' n → OddV p H' x → numB lo x = false → Q x H'
theorem ok_no_number (T : Txt P K mg A D) : FnOk P w K mg base CX0 3 A.no_number D.no_number ["_law_pen_here", "_law_few"] spNoNum := by
  refine T.f_no_number.ok sc_no_number (fun vs H Q E h => ?_) (fun cdv Ar outer s H vs Q E hr h => ?_)
  · obtain ⟨p, fw, lo, n, rfl, _⟩ := h
    rfl
  · obtain ⟨p, fw, lo, n, rfl, h0, hf, pen, q⟩ := h
    refine ⟨_, (pss_cons (ps_set (i := 2) sc_no_number.nd rfl (Or.inl rfl) (pe_lst (pa_cons (pe_un un_neg pe_int) (pa_cons (pe_op op_add (pe_op op_pow pe_int pe_int) pe_int) (pa_cons pe_non (pa_cons pe_bl (pa_cons pe_bl (pa_cons pe_str (pa_cons (pe_tup (pa_cons pe_int pa_nil)) (pa_cons (pe_lst (pa_cons pe_int pa_nil)) (pa_cons pe_dnewK (pa_cons (pe_op op_pow pe_int pe_int) (pa_cons (pe_op op_sub pe_int (pe_op op_pow pe_int pe_int)) (pa_cons (pv 1) pa_nil)))))))))))))) (pss_one (ps_ret (pe_call (ok_pick T) (hr.mono (by decide)) rfl T.m_pick T.f_pick.kp T.b_pick .nil pass0 (pa_cons (pv 0) (pa_cons (pv 2) pa_nil)))))), ?_⟩
    repeat walk_at "s"
    refine ⟨lst_ok rfl, fun t1 ht1 => ?_⟩
    repeat walk_at "s"
    refine ⟨lst_ok rfl, fun l1 hl1 => ?_⟩
    repeat walk_at "s"
    refine t_dnew fun d1 hd1 => ?_
    repeat walk_at "s"
    refine ⟨lst_ok rfl, fun z hz => ?_⟩
    have S1 := Same.new (o := .tup [.int 1]) ht1
    have S2 := Same.new (o := .lst [.int 1]) hl1
    have S3 := Same.new (o := .dK []) hd1
    have pen1 := pen.same S1
    have pen2 := pen1.same S2
    have pen3 := pen2.same S3
    repeat walk_at "s"
    refine ⟨p, z, _, n, rfl, pen3.at hz, by simp, by simp, pen3.new hz, fun v H4 G4 pen4 hv => ?_⟩
    have G := (Go.new (p := p) hz).trans G4
    have a1 : At p H4 t1 (.tup [.int 1]) := ((At.go ⟨pen.ne ht1, upd_same⟩ (Same.go (S2.trans S3))).go G)
    have a2 : At p H4 l1 (.lst [.int 1]) := ((At.go ⟨pen1.ne hl1, upd_same⟩ (Same.go S3)).go G)
    have a3 : At p H4 d1 (.dK []) := At.go ⟨pen2.ne hd1, upd_same⟩ G
    have hx : OddV p H4 v ∧ numB lo v = false := by
      have e12 : (10 : Int) ^ Int.toNat 12 = 1000000000000 := by decide
      have e59 : (10 : Int) ^ Int.toNat 59 = 10 ^ 59 := by decide
      rw [e12, e59] at hv
      simp only [List.mem_cons, List.not_mem_nil, or_false] at hv
      rcases hv with rfl | rfl | rfl | rfl | rfl | rfl | rfl | rfl | rfl | rfl | rfl | rfl
      · exact ⟨trivial, decide_eq_false (by omega)⟩
      · exact ⟨trivial, decide_eq_false (by omega)⟩
      · exact ⟨trivial, rfl⟩
      · exact ⟨trivial, rfl⟩
      · exact ⟨trivial, rfl⟩
      · exact ⟨Nat.le_of_ble_eq_true rfl, rfl⟩
      · exact ⟨⟨a1.ne, .inr (.inl ⟨_, a1.at_⟩)⟩, rfl⟩
      · exact ⟨⟨a2.ne, .inl ⟨_, a2.at_⟩⟩, rfl⟩
      · exact ⟨⟨a3.ne, .inr (.inr ⟨_, a3.at_⟩)⟩, rfl⟩
      · exact ⟨trivial, decide_eq_false (by omega)⟩
      · exact ⟨trivial, decide_eq_false (by omega)⟩
      · exact ⟨trivial, decide_eq_false (by omega)⟩
    exact q v H4 ((Same.go ((S1.trans S2).trans S3)).trans G) pen4 hx.1 hx.2
def spDue : Sp := fun vs H Q _ => ∃ (q : Addr) (ns : List Nat), vs = [.ref q] ∧ H q = some (.lst (ns.map fun (n : Nat) => V.int (n : Int))) ∧ ns.length ≤ 5 ∧ (∀ n ∈ ns, n < 5) ∧ ∀ H', Same H H' → Q (optV (dueW ns)) H'
theorem ok_due (T : Txt P K mg A D) : FnOk P w K mg base CX0 1 A.due D.due ["_law_wrong"] spDue := by
  refine T.f_due.ok sc_due (fun vs H Q E h => ?_) (fun cdv Ar outer s H vs Q E hr h => ?_)
  · obtain ⟨q, ns, rfl, _⟩ := h
    rfl
  · obtain ⟨a, ns, rfl, ha, hl, hn, q⟩ := h
    refine ⟨_, (pss_cons (ps_set (i := 1) sc_due.nd rfl (Or.inr rfl) (pe_lst (pa_cons pe_str (pa_cons pe_str (pa_cons pe_str (pa_cons pe_str (pa_cons pe_str pa_nil))))))) (pss_cons (ps_for PassesOwn.never rfl (pi_tup (pe_tup (pa_cons pe_str (pa_cons pe_str (pa_cons pe_str (pa_cons pe_str pa_nil)))))) (pg_name (i := 2) sc_due.nd rfl (Or.inr rfl)) (pss_one (ps_if (pt_cmpR (op_neD hr.units) (pe_lc (own := [("_law_at", 3)]) (g := gName 3) (by rfl) sc_due.nd (pi_list (pv 0)) (blkOk_by (own := [("_law_at", 3)]) (N := ["_law_wrong", "_law_words", "_law_word", "_law_at"]) (sc := defScope s_due) (by decide +kernel)) (fun _ _ _ _ _ => pg_name (i := 3) sc_due.nd rfl (Or.inl rfl)) (fun _ _ _ _ _ => pts_one (pt_cmpR op_eq (pe_ix (ix_listK (K := K) rfl) (pv 1) (pv 3) (fun _ _ => rfl)) (pv 2) (nomark _))) (fun _ _ _ _ _ => (pv 3))) (pe_lst pa_nil) (nomark _)) (pss_one (ps_ret (pv 2))) pss_nil))) (pss_one (ps_ret pe_non)))), ?_⟩
    repeat walk_at "s"
    refine ⟨lst_ok rfl, fun w1 hw1 => ?_⟩
    repeat walk_at "s"
    refine ⟨lst_ok rfl, fun t1 ht1 => ?_⟩
    have S1 := Same.new (o := .lst [.str "name", .str "place", .str "leaves", .str "takes", .str "place"]) hw1
    have S2 := Same.new (o := .tup [.str "name", .str "place", .str "leaves", .str "takes"]) ht1
    have ew := S2 _ _ (upd_same (H := H) (a := w1) (o := .lst [.str "name", .str "place", .str "leaves", .str "takes", .str "place"]))
    have et := upd_same (H := upd H w1 (.lst [.str "name", .str "place", .str "leaves", .str "takes", .str "place"])) (a := t1) (o := .tup [.str "name", .str "place", .str "leaves", .str "takes"])
    have S0 := S1.trans S2
    generalize upd (upd H w1 (.lst [.str "name", .str "place", .str "leaves", .str "takes", .str "place"])) t1 (.tup [.str "name", .str "place", .str "leaves", .str "takes"]) = H0 at ew et S0 ⊢
    refine ex_tup (xs := [.str "name", .str "place", .str "leaves", .str "takes"]) (.inl (.inl et)) (fun i σ' H' => Same H0 H' ∧ (∃ v1 v2, σ' = [some (.ref a), some (.ref w1), v1, v2]) ∧ ∀ wd ∈ (["name", "place", "leaves", "takes"] : List Str).take i, (ns.any fun n => words[n]? == some wd) = false) ⟨fun _ _ e => e, ⟨_, _, rfl⟩, by simp⟩ ?_ ?_ ?_
    · rintro i σ' H' _ ⟨S, _⟩
      exact .inl (.inl (S _ _ et))
    · rintro i x σ' H1 hx ⟨S, ⟨v1, v2, rfl⟩, no⟩
      obtain ⟨wd, hwd, rfl⟩ : ∃ wd : Str, (["name", "place", "leaves", "takes"] : List Str)[i]? = some wd ∧ x = .str wd := by
        match i, hx with
        | 0, hx => exact ⟨_, rfl, (Option.some.inj hx).symm⟩
        | 1, hx => exact ⟨_, rfl, (Option.some.inj hx).symm⟩
        | 2, hx => exact ⟨_, rfl, (Option.some.inj hx).symm⟩
        | 3, hx => exact ⟨_, rfl, (Option.some.inj hx).symm⟩
      repeat walk_at "s"
      refine t_lcL ?_
      repeat walk_at "s"
      have ha1 := (S0.trans S) _ _ ha
      have ew1 := S _ _ ew
      refine ⟨a, rfl, ⟨_, .inl (.inl ha1)⟩, fun d hd => ?_⟩
      refine lcL_filter (f := fun x => match x with | .int n => words[n.toNat]? == some wd | _ => false) (by rw [List.length_map]; omega) (fun l => .inl (.inl (Same.new hd _ _ ha1))) (fun x hx R N l h1 h2 => ?_) ?_
      · obtain ⟨n, hn1, rfl⟩ := List.mem_map.mp hx
        have hn5 := hn n hn1
        obtain ⟨z, hz⟩ : ∃ z : Str, words[n]? = some z := ⟨words[n]'hn5, List.getElem?_eq_getElem _⟩
        have hat : atI [V.str "name", .str "place", .str "leaves", .str "takes", .str "place"] (n : Int) = some (.str z) := by
          match n, hn5, hz with
          | 0, _, hz => cases hz; rfl
          | 1, _, hz => cases hz; rfl
          | 2, _, hz => cases hz; rfl
          | 3, _, hz => cases hz; rfl
          | 4, _, hz => cases hz; rfl
        have ef : (words[((n : Int)).toNat]? == some wd) = decide (z = wd) := by
          rw [Int.toNat_natCast, hz]
          by_cases e : z = wd <;> simp [e]
        dsimp only at h1 h2
        rw [ef] at h1 h2
        repeat walk_at "s"
        refine ⟨rfl, ?_⟩
        repeat walk_at "s"
        refine r_ixL (.inl (.inl (Same.new hd _ _ ew1))) hat ?_
        repeat walk_at "s"
        refine r_eqS ?_
        refine ⟨_, rfl, ?_⟩
        by_cases e : z = wd
        · rw [decide_eq_true e]
          repeat walk_at "s"
          exact h1 (decide_eq_true e)
        · rw [decide_eq_false e]
          exact h2 (decide_eq_false e)
      · have ef : (ns.map fun (n : Nat) => V.int (n : Int)).filter (fun x => match x with | .int n => words[n.toNat]? == some wd | _ => false) = ((ns.filter fun n => words[n]? == some wd).map fun (n : Nat) => (n : Int)).map V.int := by
          rw [List.filter_map, List.map_map]
          rfl
        rw [ef]
        repeat walk_at "s"
        refine ⟨lst_ok rfl, fun e he => ?_⟩
        refine r_neNil (.inl (.inl (Same.new he _ _ upd_same))) (.inl (.inl upd_same)) ?_
        repeat walk_at "s"
        have S3 := (S0.trans S).trans ((Same.new (o := .lst (((ns.filter fun n => words[n]? == some wd).map fun (n : Nat) => (n : Int)).map V.int)) hd).trans (Same.new (o := .lst []) he))
        have S4 := S.trans ((Same.new (o := .lst (((ns.filter fun n => words[n]? == some wd).map fun (n : Nat) => (n : Int)).map V.int)) hd).trans (Same.new (o := .lst []) he))
        have eb : ((ns.filter fun n => words[n]? == some wd).map fun (n : Nat) => (n : Int)).isEmpty = !(ns.any fun n => words[n]? == some wd) := by
          rw [List.isEmpty_map, filter_empty]
        rw [eb]
        cases hb : (ns.any fun n => words[n]? == some wd) with
        | true =>
          repeat walk_at "s"
          have e : dueW ns = some wd := by
            unfold dueW
            match i, hwd, no with
            | 0, hwd, no => cases hwd; simp [List.find?, hb]
            | 1, hwd, no => cases hwd; have := no "name" (by simp); simp [List.find?, hb, this]
            | 2, hwd, no => cases hwd; have := no "name" (by simp); have := no "place" (by simp); simp [List.find?, *]
            | 3, hwd, no => cases hwd; have := no "name" (by simp); have := no "place" (by simp); have := no "leaves" (by simp); simp [List.find?, *]
          have := q _ S3
          rw [e] at this
          exact this
        | false =>
          repeat walk_at "s"
          refine ⟨S4, ⟨_, _, rfl⟩, fun z hz => ?_⟩
          rw [List.take_succ, hwd] at hz
          rcases List.mem_append.mp hz with h | h
          · exact no z h
          · cases List.mem_singleton.mp h
            exact hb
    · rintro σ' H' ⟨S, ⟨v1, v2, rfl⟩, no⟩
      repeat walk_at "s"
      have e : dueW ns = none := by
        unfold dueW
        have h1 := no "name" (by simp)
        have h2 := no "place" (by simp)
        have h3 := no "leaves" (by simp)
        have h4 := no "takes" (by simp)
        simp [List.find?, h1, h2, h3, h4]
      have := q _ (S0.trans S)
      rw [e] at this
      exact this
def spRight (A : Ad) : Sp := fun vs H Q _ => ∃ (p : Addr) (n : Nat), vs = [.ref p] ∧ Pen p H (n + 12) ∧ Tabs (Ts A) H ∧ ∀ H' : Hp, GoT p H H' → Pen p H' n → Tabs (Ts A) H' → Q (.bl true) H'
theorem ok_right (T : Txt P K mg A D) (TB : Tbs base mg A) : FnOk P w K mg base CX0 9 A.right D.right ["_law_pen_here"] (spRight A) := by
  refine FunL.ok T.f_right sc_right (fun vs H Q E h => ?_) (fun Ar outer s H vs Q E hr h => ?_)
  · obtain ⟨p, n, rfl, _⟩ := h
    rfl
  · obtain ⟨p, n, rfl, pen, tab, q⟩ := h
    refine ⟨_, (pss_cons (ps_set (i := 1) sc_right.nd rfl (Or.inr rfl) (pe_lst (pa_cons pe_str (pa_cons pe_str (pa_cons (pe_call (ok_draw T) (hr.mono (by decide)) rfl T.m_draw T.f_draw.kp T.b_draw .nil pass0 (pa_cons (pv 0) (pa_cons pe_int pa_nil))) (pa_cons (pe_op op_add pe_int (pe_call (ok_draw T) (hr.mono (by decide)) rfl T.m_draw T.f_draw.kp T.b_draw .nil pass0 (pa_cons (pv 0) (pa_cons pe_int pa_nil)))) (pa_cons pe_str pa_nil))))))) (pss_cons (ps_set (i := 2) sc_right.nd rfl (Or.inr rfl) (pe_lst (pa_cons (pe_call (ok_no_name T) (hr.mono (by decide)) rfl T.m_no_name T.f_no_name.kp T.b_no_name .nil pass0 (pa_cons (pv 0) pa_nil)) (pa_cons (pe_call (ok_no_name T) (hr.mono (by decide)) rfl T.m_no_name T.f_no_name.kp T.b_no_name .nil pass0 (pa_cons (pv 0) pa_nil)) (pa_cons (pe_call (ok_no_number T) (hr.mono (by decide)) rfl T.m_no_number T.f_no_number.kp T.b_no_number .nil pass0 (pa_cons (pv 0) (pa_cons (pe_un un_neg pe_int) pa_nil))) (pa_cons (pe_call (ok_no_number T) (hr.mono (by decide)) rfl T.m_no_number T.f_no_number.kp T.b_no_number .nil pass0 (pa_cons (pv 0) (pa_cons pe_int pa_nil))) (pa_cons (pe_call (ok_no_name T) (hr.mono (by decide)) rfl T.m_no_name T.f_no_name.kp T.b_no_name .nil pass0 (pa_cons (pv 0) pa_nil)) pa_nil))))))) (pss_cons (ps_set (i := 3) sc_right.nd rfl (Or.inr rfl) (pe_lc (own := [("_law_at", 8)]) (g := gName 8) (by rfl) sc_right.nd (pi_range1 rfl T.n_range (pa_cons pe_int pa_nil)) (blkOk_by (own := [("_law_at", 8)]) (N := ["_law_pen_here", "_law_fine", "_law_odd", "_law_wrong", "_law_told", "_law_heard_here", "_law_due_here", "_law_lone", "_law_at"]) (sc := defScope s_right) (by decide +kernel)) (fun _ _ _ _ _ => pg_name (i := 8) sc_right.nd rfl (Or.inl rfl)) (fun _ _ _ _ _ => pts_one (pt_cmpR op_eq (pe_call (ok_drawL T) (hr.mono (by decide)) rfl T.m_draw T.f_draw.kp T.b_draw .nil pass0 (pa_cons (pv 0) (pa_cons pe_int pa_nil))) pe_int (nomark _))) (fun _ _ _ _ _ => (pv 8)))) (pss_cons (ps_set (i := 4) sc_right.nd rfl (Or.inr rfl) (pe_lc (own := [("_law_at", 8)]) (g := gName 8) (by rfl) sc_right.nd (pi_range1 rfl T.n_range (pa_cons pe_int pa_nil)) (blkOk_by (own := [("_law_at", 8)]) (N := ["_law_pen_here", "_law_fine", "_law_odd", "_law_wrong", "_law_told", "_law_heard_here", "_law_due_here", "_law_lone", "_law_at"]) (sc := defScope s_right) (by decide +kernel)) (fun _ _ _ _ _ => pg_name (i := 8) sc_right.nd rfl (Or.inl rfl)) (fun _ _ _ _ _ => pts_nil) (fun _ _ _ _ _ => (pe_ifExp (pt_cmpR (op_inK (K := K) rfl) (pv 8) (pv 3) (by rfl)) (pe_ix (ix_listK (K := K) rfl) (pv 2) (pv 8) (fun _ _ => rfl)) (pe_ix (ix_listK (K := K) rfl) (pv 1) (pv 8) (fun _ _ => rfl)))))) (pss_cons (ps_set (i := 5) sc_right.nd rfl (Or.inl rfl) (pe_lst (pa_cons (pe_lam (T := Ts A) (k := 6) T.f_heard T.b_heard sc_heard (fun _ => gives_heard T) rfl T.m_heard TB.t_right rfl (by simp [Ts]; first | rfl | exact .inl rfl | exact .inr rfl | exact .inr (.inl rfl)) (ts_right T) (hr.mono (by decide)) (lamS_by (sc := defScope s_right) (by decide +kernel)) (fun _ _ _ _ _ _ _ hr => (pe_make T.mk_Run (ok_Run_init T) (hr.mono (by decide)) rfl T.m_Run T.b_Run_init .nil (passes_call (takes_of rfl rfl rfl rfl) (fun _ _ _ _ h => h)) (pa_cons (pe_ix (ix_listK (K := K) rfl) (pv 4) pe_int (fun _ _ => rfl)) (pa_cons (pe_ix (ix_listK (K := K) rfl) (pv 4) pe_int (fun _ _ => rfl)) (pa_cons (pe_ix (ix_listK (K := K) rfl) (pv 4) pe_int (fun _ _ => rfl)) (pa_cons (pe_ix (ix_listK (K := K) rfl) (pv 4) pe_int (fun _ _ => rfl)) (pa_cons (pe_ix (ix_listK (K := K) rfl) (pv 4) pe_int (fun _ _ => rfl)) pa_nil)))))))) pa_nil))) (pss_cons (ps_expr (pe_bm PySem.F.plainAttrs_list PySem.F.slot_list_append PySem.F.type_list_append mt_append (pv 5) (pa_cons (pe_lam (T := Ts A) (k := 6) T.f_heard T.b_heard sc_heard (fun _ => gives_heard T) rfl T.m_heard TB.t_right rfl (by simp [Ts]; first | rfl | exact .inl rfl | exact .inr rfl | exact .inr (.inl rfl)) (ts_right T) (hr.mono (by decide)) (lamS_by (sc := defScope s_right) (by decide +kernel)) (fun _ _ _ _ _ _ _ hr => (pe_makeK0 T.mk_Run (ok_Run_init T) (hr.mono (by decide)) rfl T.m_Run (FunS.kbn T.f_Run_init (ps := ["self", "name", "start", "leaves", "takes", "goal"]) (ks := ["goal", "takes", "leaves", "start", "name"]) 1 [4, 3, 2, 1, 0] fun _ _ _ _ _ _ _ us ws h1 h2 => match us, ws, h1, h2 with | [_], [_, _, _, _, _], _, _ => rfl) (passes_call (takes_of rfl rfl rfl rfl) (fun _ _ _ _ h => h)) (pk_cons (pe_ix (ix_listK (K := K) rfl) (pv 4) pe_int (fun _ _ => rfl)) (pk_cons (pe_ix (ix_listK (K := K) rfl) (pv 4) pe_int (fun _ _ => rfl)) (pk_cons (pe_ix (ix_listK (K := K) rfl) (pv 4) pe_int (fun _ _ => rfl)) (pk_cons (pe_ix (ix_listK (K := K) rfl) (pv 4) pe_int (fun _ _ => rfl)) (pk_cons (pe_ix (ix_listK (K := K) rfl) (pv 4) pe_int (fun _ _ => rfl)) pk_nil)))))))) pa_nil))) (pss_cons (ps_expr (pe_bm PySem.F.plainAttrs_list PySem.F.slot_list_append PySem.F.type_list_append mt_append (pv 5) (pa_cons (pe_lam (T := Ts A) (k := 6) T.f_heard T.b_heard sc_heard (fun _ => gives_heard T) rfl T.m_heard TB.t_right rfl (by simp [Ts]; first | rfl | exact .inl rfl | exact .inr rfl | exact .inr (.inl rfl)) (ts_right T) (hr.mono (by decide)) (lamS_by (sc := defScope s_right) (by decide +kernel)) (fun _ _ _ _ _ _ _ hr => (pe_make T.mk_Stay (ok_Stay_init T) (hr.mono (by decide)) rfl T.m_Stay T.b_Stay_init .nil (passes_call (takes_of rfl rfl rfl rfl) (fun _ _ _ _ h => h)) (pa_cons (pe_ix (ix_listK (K := K) rfl) (pv 4) pe_int (fun _ _ => rfl)) (pa_cons (pe_ix (ix_listK (K := K) rfl) (pv 4) pe_int (fun _ _ => rfl)) (pa_cons (pe_ix (ix_listK (K := K) rfl) (pv 4) pe_int (fun _ _ => rfl)) (pa_cons (pe_ix (ix_listK (K := K) rfl) (pv 4) pe_int (fun _ _ => rfl)) pa_nil))))))) pa_nil))) (pss_cons (ps_expr (pe_bm PySem.F.plainAttrs_list PySem.F.slot_list_append PySem.F.type_list_append mt_append (pv 5) (pa_cons (pe_lam (T := Ts A) (k := 6) T.f_heard T.b_heard sc_heard (fun _ => gives_heard T) rfl T.m_heard TB.t_right rfl (by simp [Ts]; first | rfl | exact .inl rfl | exact .inr rfl | exact .inr (.inl rfl)) (ts_right T) (hr.mono (by decide)) (lamS_by (sc := defScope s_right) (by decide +kernel)) (fun _ _ _ _ _ _ _ hr => (pe_makeK0 T.mk_Stay (ok_Stay_init T) (hr.mono (by decide)) rfl T.m_Stay (FunS.kbn T.f_Stay_init (ps := ["self", "name", "place", "leaves", "takes"]) (ks := ["place", "takes", "leaves", "name"]) 1 [3, 0, 2, 1] fun _ _ _ _ _ _ _ us ws h1 h2 => match us, ws, h1, h2 with | [_], [_, _, _, _], _, _ => rfl) (passes_call (takes_of rfl rfl rfl rfl) (fun _ _ _ _ h => h)) (pk_cons (pe_ix (ix_listK (K := K) rfl) (pv 4) pe_int (fun _ _ => rfl)) (pk_cons (pe_ix (ix_listK (K := K) rfl) (pv 4) pe_int (fun _ _ => rfl)) (pk_cons (pe_ix (ix_listK (K := K) rfl) (pv 4) pe_int (fun _ _ => rfl)) (pk_cons (pe_ix (ix_listK (K := K) rfl) (pv 4) pe_int (fun _ _ => rfl)) pk_nil))))))) pa_nil))) (pss_cons (ps_par (i := 6) (j := 7) rfl sc_right.nd rfl rfl (by decide) rfl rfl (pa_cons (pe_call (ok_due T) (hr.mono (by decide)) rfl T.m_due T.f_due.kp T.b_due .nil pass0 (pa_cons (pv 3) pa_nil)) (pa_cons (pe_call (ok_due T) (hr.mono (by decide)) rfl T.m_due T.f_due.kp T.b_due .nil pass0 (pa_cons (pe_lc (own := [("_law_at", 8)]) (g := gName 8) (by rfl) sc_right.nd (pi_list (pv 3)) (blkOk_by (own := [("_law_at", 8)]) (N := ["_law_pen_here", "_law_fine", "_law_odd", "_law_wrong", "_law_told", "_law_heard_here", "_law_due_here", "_law_lone", "_law_at"]) (sc := defScope s_right) (by decide +kernel)) (fun _ _ _ _ _ => pg_name (i := 8) sc_right.nd rfl (Or.inl rfl)) (fun _ _ _ _ _ => pts_one (pt_cmpR op_lt (pv 8) pe_int (nomark _))) (fun _ _ _ _ _ => (pv 8))) pa_nil)) pa_nil)) (by rfl)) (pss_one (ps_ret (pe_cmpR (op_eqD hr.units) (pv 5) (pe_lst (pa_cons (pv 6) (pa_cons (pv 6) (pa_cons (pv 7) (pa_cons (pv 7) pa_nil))))) (nomark _))))))))))))), ?_⟩
    repeat walk_at "s"
    refine ⟨p, _, n + 11, rfl, by decide, by decide, pen, fun d1 H1 G1 pen1 a1 b1 => ?_⟩
    repeat walk_at "s"
    refine ⟨p, _, n + 10, rfl, by decide, by decide, pen1, fun d2 H2 G2 pen2 a2 b2 => ?_⟩
    repeat walk_at "s"
    refine ⟨lst_ok rfl, fun f1 hf1 => ?_⟩
    have S3 := Same.new (o := .lst [.str "p", .str "a", .int d1, .int (1 + d2), .str "b"]) hf1
    have pen3 := pen2.same S3
    have af := pen2.at (o := .lst [.str "p", .str "a", .int d1, .int (1 + d2), .str "b"]) hf1
    repeat walk_at "s"
    refine ⟨p, n + 9, rfl, pen3, fun x0 H4 G4 pen4 o0 m0 => ?_⟩
    repeat walk_at "s"
    refine ⟨p, n + 8, rfl, pen4, fun x1 H5 G5 pen5 o1 m1 => ?_⟩
    repeat walk_at "s"
    refine ⟨p, _, 0, n + 7, rfl, by decide, by decide, pen5, fun x2 H6 G6 pen6 o2 m2 => ?_⟩
    repeat walk_at "s"
    refine ⟨p, _, 1, n + 6, rfl, by decide, by decide, pen6, fun x3 H7 G7 pen7 o3 m3 => ?_⟩
    repeat walk_at "s"
    refine ⟨p, n + 5, rfl, pen7, fun x4 H8 G8 pen8 o4 m4 => ?_⟩
    repeat walk_at "s"
    refine ⟨lst_ok rfl, fun g1 hg1 => ?_⟩
    repeat walk_at "s"
    have S9 := Same.new (o := .lst [x0, x1, x2, x3, x4]) hg1
    have pen9 := pen8.same S9
    have ag := pen8.at (o := .lst [x0, x1, x2, x3, x4]) hg1
    have af9 := ((((((af.go G4).go G5).go G6).go G7).go G8).go (Same.go S9))
    have o0' := ((((o0.got G5.t).got G6.t).got G7.t).got G8.t).got (same_t S9)
    have o1' := (((o1.got G6.t).got G7.t).got G8.t).got (same_t S9)
    have o2' := ((o2.got G7.t).got G8.t).got (same_t S9)
    have o3' := (o3.got G8.t).got (same_t S9)
    have o4' := o4.got (same_t S9)
    have tab9 : Tabs (Ts A) (upd H8 g1 (.lst [x0, x1, x2, x3, x4])) := Tabs.same (Tabs.go (Tabs.go (Tabs.go (Tabs.go (Tabs.go (Tabs.same (Tabs.go (Tabs.go tab pen G1) pen1 G2) S3) pen3 G4) pen4 G5) pen5 G6) pen6 G7) pen7 G8) S9
    have GT9 : GoT p H (upd H8 g1 (.lst [x0, x1, x2, x3, x4])) := ((((((((G1.trans G2).trans (Same.go S3)).trans G4).trans G5).trans G6).trans G7).trans G8).trans (Same.go S9)).t
    generalize upd H8 g1 (.lst [x0, x1, x2, x3, x4]) = H9 at S9 pen9 ag af9 o0' o1' o2' o3' o4' tab9 GT9 ⊢
    refine t_lcR ?_
    repeat walk_at "s"
    refine ⟨by decide, by decide, fun w1 hw1 => ?_⟩
    have nw := pen9.ne hw1
    obtain ⟨l9, penL'⟩ := pen9
    have penL : PenAt p l9 H9 (n + 5) := penL'
    have nl : w1 ≠ l9 := fun z => by
      obtain ⟨c, sp, g, h1, h2, h3, h4⟩ := penL
      rw [← z, hw1] at h3
      cases h3
    refine lc_range (lo := 0) (n := 5) (Qd := fun H' => _) (fun i H' => ∃ ns : List Nat, H' w1 = some (.lst (ns.map fun (k : Nat) => V.int (k : Int))) ∧ ns.length ≤ i ∧ (∀ k ∈ ns, k < i) ∧ PenAt p l9 H' (n + 5 - i) ∧ Go p H9 H') ⟨[], upd_same, Nat.le_refl _, by simp, penL.same (Same.new hw1), Go.new hw1⟩ ?_ ?_
    · rintro i H' hi ⟨ns, e1, e2, e3, e4, e5⟩
      repeat walk_at "s"
      refine ⟨rfl, ?_⟩
      repeat walk_at "s"
      refine ⟨p, l9, _, n + 5 - (i + 1), rfl, by decide, by decide, e4.le (by omega), fun d H2' G2' pen2' a2' b2' => ?_⟩
      repeat walk_at "s"
      refine ite_d (fun hd => ?_) fun hd => ?_
      · repeat walk_at "s"
        refine ⟨_, G2' _ _ nw e1, ?_, ns ++ [i], ?_, ?_, ?_, ?_, ?_⟩
        · rw [List.length_map]; exact Nat.lt_of_le_of_lt e2 (Nat.lt_trans hi (by decide))
        · rw [upd_same, List.map_append]; simp
        · rw [List.length_append]; simp; omega
        · intro k hk
          rcases List.mem_append.mp hk with h | h
          · have := e3 k h; omega
          · cases List.mem_singleton.mp h; omega
        · exact pen2'.set nw nl
        · intro b o nb hb
          rw [upd_ne (ne_of_none hb hw1)]
          exact G2' _ _ nb (e5 _ _ nb hb)
      · exact ⟨ns, G2' _ _ nw e1, by omega, fun k hk => by have := e3 k hk; omega, pen2', e5.trans G2'⟩
    · rintro H10 ⟨ns, e1, e2, e3, pen10, G10⟩
      repeat walk_at "s"
      have pen10 : Pen p H10 n := pen10.pen
      have ag10 := (ag.go G10).at_
      have af10 := (af9.go G10).at_
      have tab10 : Tabs (Ts A) H10 := Tabs.go tab9 ⟨l9, penL'⟩ G10
      have GT10 := GT9.trans G10.t
      refine t_lcR ?_
      repeat walk_at "s"
      refine ⟨by decide, by decide, fun w2 hw2 => ?_⟩
      have S11 := fun l => Same.new (o := .lst l) hw2
      refine lc_map (n := 5) (walk_range (lo := 0)) (F := fun i => if i ∈ ns then [x0, x1, x2, x3, x4].getD i .non else [.str "p", .str "a", .int d1, .int (1 + d2), .str "b"].getD i .non) (xf := fun i => .int (0 + (i : Int))) (by decide) (fun i H' x H'' _ y => y) (fun _ => trivial) (fun i R l hi hR => ?_) ?_
      · repeat walk_at "s"
        refine ⟨rfl, ?_⟩
        repeat walk_at "s"
        refine ⟨w1, _, rfl, .inl (.inl (.inl (S11 l _ _ e1))), rfl, by rw [List.all_map]; simp [flatV], ?_⟩
        rw [Int.zero_add] at *
        rw [if_neg (by decide), inV_ints]
        repeat walk_at "s"
        have at5 : ∀ y0 y1 y2 y3 y4 : V, atI [y0, y1, y2, y3, y4] (i : Int) = some ([y0, y1, y2, y3, y4].getD i .non) := fun y0 y1 y2 y3 y4 => by
          match i, hi with
          | 0, _ => rfl
          | 1, _ => rfl
          | 2, _ => rfl
          | 3, _ => rfl
          | 4, _ => rfl
        refine ite_d (fun hm => ?_) fun hm => ?_
        · repeat walk_at "s"
          refine r_ixL (.inl (.inl (S11 l _ _ ag10))) (at5 _ _ _ _ _) ?_
          simp only [if_pos hm] at hR
          exact hR _
        · repeat walk_at "s"
          refine r_ixL (.inl (.inl (S11 l _ _ af10))) (at5 _ _ _ _ _) ?_
          simp only [if_neg hm] at hR
          exact hR _
      · have k0 := odd_if (c := 0 ∈ ns) (B := nameB) (o0'.got G10.t) (show OddV p H10 (.str "p") from Nat.le_of_ble_eq_true rfl) m0 (by decide +kernel)
        have k1 := odd_if (c := 1 ∈ ns) (B := nameB) (o1'.got G10.t) (show OddV p H10 (.str "a") from Nat.le_of_ble_eq_true rfl) m1 (by decide +kernel)
        have k2 := odd_if (c := 2 ∈ ns) (B := numB 0) (o2'.got G10.t) (show OddV p H10 (.int d1) from trivial) m2 (decide_eq_true ⟨by omega, by omega⟩)
        have k3 := odd_if (c := 3 ∈ ns) (B := numB 1) (o3'.got G10.t) (show OddV p H10 (.int (1 + d2)) from trivial) m3 (decide_eq_true ⟨by omega, by omega⟩)
        have k4 := odd_if (c := 4 ∈ ns) (B := nameB) (o4'.got G10.t) (show OddV p H10 (.str "b") from Nat.le_of_ble_eq_true rfl) m4 (by decide +kernel)
        have e5 : (List.range 5).map (fun i => if i ∈ ns then [x0, x1, x2, x3, x4].getD i .non else [V.str "p", .str "a", .int d1, .int (1 + d2), .str "b"].getD i .non) =
          [if 0 ∈ ns then x0 else .str "p", if 1 ∈ ns then x1 else .str "a", if 2 ∈ ns then x2 else .int d1, if 3 ∈ ns then x3 else .int (1 + d2), if 4 ∈ ns then x4 else .str "b"] := rfl
        rw [e5]
        generalize (if 0 ∈ ns then x0 else V.str "p") = y0 at k0 ⊢
        generalize (if 1 ∈ ns then x1 else V.str "a") = y1 at k1 ⊢
        generalize (if 2 ∈ ns then x2 else V.int d1) = y2 at k2 ⊢
        generalize (if 3 ∈ ns then x3 else V.int (1 + d2)) = y3 at k3 ⊢
        generalize (if 4 ∈ ns then x4 else V.str "b") = y4 at k4 ⊢
        have S11 := Same.new (o := .lst [y0, y1, y2, y3, y4]) hw2
        have ew2 := upd_same (H := H10) (a := w2) (o := .lst [y0, y1, y2, y3, y4])
        have nw2 := pen10.ne hw2
        have pen11 := pen10.same S11
        have tab11 := Tabs.same tab10 S11
        have GT11 := GT10.trans (same_t S11)
        have ew1 := S11 _ _ e1
        have pa : ∀ H', GoT p H10 H' → Parts K H' y0 y1 y2 y3 y4 (!decide (0 ∈ ns)) (!decide (1 ∈ ns)) (!decide (2 ∈ ns)) (!decide (3 ∈ ns)) (!decide (4 ∈ ns)) := fun H' g =>
          ⟨k0.2 ▸ (k0.1.got g).name, k1.2 ▸ (k1.1.got g).name, k2.2 ▸ (k2.1.got g).num, k3.2 ▸ (k3.1.got g).num, k4.2 ▸ (k4.1.got g).name⟩
        have GX := same_t (p := p) S11
        generalize upd H10 w2 (.lst [y0, y1, y2, y3, y4]) = H11 at ew2 pen11 tab11 GT11 ew1 GX ⊢
        have tcR : TripC K A.Run := ⟨T.cl_Run, T.nR_name, T.nR_start, T.nR_leaves, T.nR_takes, T.nR_goal⟩
        have tcS : TripC K A.Stay := ⟨T.cl_Stay, T.nS_name, T.nS_start, T.nS_leaves, T.nS_takes, T.nS_goal⟩
        repeat walk_at "s"
        refine t_lam tab11 fun H12 X12 tab12 Ech Qc hE hQ => ?_
        have ew12 := X12 _ _ ew2 (fun _ z => by cases z)
        dsimp only
        repeat walk_at "s"
        refine r_ixL (.inl (.inl ew12)) rfl ?_
        repeat walk_at "s"
        refine r_ixL (.inl (.inl ew12)) rfl ?_
        repeat walk_at "s"
        refine r_ixL (.inl (.inl ew12)) rfl ?_
        repeat walk_at "s"
        refine r_ixL (.inl (.inl ew12)) rfl ?_
        repeat walk_at "s"
        refine r_ixL (.inl (.inl ew12)) rfl ?_
        repeat walk_at "s"
        intro x dx hx hdx hne
        refine ⟨x, dx, _, _, _, _, _, rfl, upd_same, ?_⟩
        refine mk_trip tcR (pa H12 (GX.trans (ext_t X12))) hE hQ (fun H13 S13 => ?_) hx hdx
        have ex13 := X12.trans (ExtN.of S13)
        have tab13 := Tabs.same tab12 S13
        repeat walk_at "s"
        refine ⟨lst_ok rfl, fun h1 hh1 => ?_⟩
        have nh : ∀ b o, H11 b = some o → (∀ ps, o ≠ .tbl ps) → b ≠ h1 := fun b o e n => ne_of_none (ex13 b o e n) hh1
        have XX14 : ExtN H11 (upd H13 h1 (.lst [optV (dueOf (!decide (0 ∈ ns)) (!decide (1 ∈ ns)) (!decide (2 ∈ ns)) (!decide (3 ∈ ns)) !decide (4 ∈ ns))])) := ex13.trans (ExtN.of (Same.new hh1))
        have tab14 := Tabs.same tab13 (Same.new (o := .lst [optV (dueOf (!decide (0 ∈ ns)) (!decide (1 ∈ ns)) (!decide (2 ∈ ns)) (!decide (3 ∈ ns)) !decide (4 ∈ ns))]) hh1)
        have eh14 := upd_same (H := H13) (a := h1) (o := .lst [optV (dueOf (!decide (0 ∈ ns)) (!decide (1 ∈ ns)) (!decide (2 ∈ ns)) (!decide (3 ∈ ns)) !decide (4 ∈ ns))])
        generalize upd H13 h1 (.lst [optV (dueOf (!decide (0 ∈ ns)) (!decide (1 ∈ ns)) (!decide (2 ∈ ns)) (!decide (3 ∈ ns)) !decide (4 ∈ ns))]) = H14 at XX14 tab14 eh14 ⊢
        repeat walk_at "s"
        refine t_bm ?_
        repeat walk_at "s"
        refine ⟨.inl ⟨rfl, _, .inl (.inl eh14)⟩, ?_⟩
        repeat walk_at "s"
        refine t_lam tab14 fun H15 X15 tab15 Ech Qc hE hQ => ?_
        have ew15 := (XX14.trans X15) _ _ ew2 (fun _ z => by cases z)
        dsimp only
        refine t_makeK ?_
        repeat walk_at "s"
        refine r_ixL (.inl (.inl ew15)) rfl ?_
        repeat walk_at "s"
        refine r_ixL (.inl (.inl ew15)) rfl ?_
        repeat walk_at "s"
        refine r_ixL (.inl (.inl ew15)) rfl ?_
        repeat walk_at "s"
        refine r_ixL (.inl (.inl ew15)) rfl ?_
        repeat walk_at "s"
        refine r_ixL (.inl (.inl ew15)) rfl ?_
        repeat walk_at "s"
        refine ⟨rfl, rfl, ?_⟩
        intro x dx hx hdx hne
        refine ⟨x, dx, _, _, _, _, _, rfl, upd_same, ?_⟩
        refine mk_trip tcR (pa H15 (GX.trans (ext_t (XX14.trans X15)))) hE hQ (fun H16 S16 => ?_) hx hdx
        have eh16 := (X15.trans (ExtN.of S16)) _ _ eh14 (fun _ z => by cases z)
        have tab16 := Tabs.same tab15 S16
        repeat walk_at "s"
        refine ⟨h1, _, _, rfl, rfl, eh16, Nat.lt_of_le_of_lt (Nat.le_of_ble_eq_true (m := 10) rfl) (by decide), ?_⟩
        simp only [List.cons_append, List.nil_append]
        have XX17 : ExtN H11 (upd H16 h1 (.lst [optV (dueOf (!decide (0 ∈ ns)) (!decide (1 ∈ ns)) (!decide (2 ∈ ns)) (!decide (3 ∈ ns)) !decide (4 ∈ ns)), optV (dueOf (!decide (0 ∈ ns)) (!decide (1 ∈ ns)) (!decide (2 ∈ ns)) (!decide (3 ∈ ns)) !decide (4 ∈ ns))])) := fun b o e n => by
          rw [upd_ne (nh b o e n)]
          exact (XX14.trans (X15.trans (ExtN.of S16))) b o e n
        have tab17 := Tabs.upd (o := .lst [optV (dueOf (!decide (0 ∈ ns)) (!decide (1 ∈ ns)) (!decide (2 ∈ ns)) (!decide (3 ∈ ns)) !decide (4 ∈ ns)), optV (dueOf (!decide (0 ∈ ns)) (!decide (1 ∈ ns)) (!decide (2 ∈ ns)) (!decide (3 ∈ ns)) !decide (4 ∈ ns))]) tab16 eh16
        have eh17 := upd_same (H := H16) (a := h1) (o := .lst [optV (dueOf (!decide (0 ∈ ns)) (!decide (1 ∈ ns)) (!decide (2 ∈ ns)) (!decide (3 ∈ ns)) !decide (4 ∈ ns)), optV (dueOf (!decide (0 ∈ ns)) (!decide (1 ∈ ns)) (!decide (2 ∈ ns)) (!decide (3 ∈ ns)) !decide (4 ∈ ns))])
        generalize upd H16 h1 (.lst [optV (dueOf (!decide (0 ∈ ns)) (!decide (1 ∈ ns)) (!decide (2 ∈ ns)) (!decide (3 ∈ ns)) !decide (4 ∈ ns)), optV (dueOf (!decide (0 ∈ ns)) (!decide (1 ∈ ns)) (!decide (2 ∈ ns)) (!decide (3 ∈ ns)) !decide (4 ∈ ns))]) = H17 at XX17 tab17 eh17 ⊢
        repeat walk_at "s"
        refine t_bm ?_
        repeat walk_at "s"
        refine ⟨.inl ⟨rfl, _, .inl (.inl eh17)⟩, ?_⟩
        repeat walk_at "s"
        refine t_lam tab17 fun H18 X18 tab18 Ech Qc hE hQ => ?_
        have ew18 := (XX17.trans X18) _ _ ew2 (fun _ z => by cases z)
        dsimp only
        skip
        repeat walk_at "s"
        refine r_ixL (.inl (.inl ew18)) rfl ?_
        repeat walk_at "s"
        refine r_ixL (.inl (.inl ew18)) rfl ?_
        repeat walk_at "s"
        refine r_ixL (.inl (.inl ew18)) rfl ?_
        repeat walk_at "s"
        refine r_ixL (.inl (.inl ew18)) rfl ?_
        repeat walk_at "s"
        intro x dx hx hdx hne
        refine ⟨x, dx, _, _, _, _, rfl, upd_same, ?_⟩
        refine mk_trip tcS ⟨(pa H18 (GX.trans (ext_t (XX17.trans X18)))).n, (pa H18 (GX.trans (ext_t (XX17.trans X18)))).s, (pa H18 (GX.trans (ext_t (XX17.trans X18)))).l, (pa H18 (GX.trans (ext_t (XX17.trans X18)))).t, (pa H18 (GX.trans (ext_t (XX17.trans X18)))).s⟩ hE hQ (fun H19 S19 => ?_) hx hdx
        have eh19 := (X18.trans (ExtN.of S19)) _ _ eh17 (fun _ z => by cases z)
        have tab19 := Tabs.same tab18 S19
        repeat walk_at "s"
        refine ⟨h1, _, _, rfl, rfl, eh19, Nat.lt_of_le_of_lt (Nat.le_of_ble_eq_true (m := 10) rfl) (by decide), ?_⟩
        simp only [List.cons_append, List.nil_append]
        have XX20 : ExtN H11 (upd H19 h1 (.lst [optV (dueOf (!decide (0 ∈ ns)) (!decide (1 ∈ ns)) (!decide (2 ∈ ns)) (!decide (3 ∈ ns)) !decide (4 ∈ ns)), optV (dueOf (!decide (0 ∈ ns)) (!decide (1 ∈ ns)) (!decide (2 ∈ ns)) (!decide (3 ∈ ns)) !decide (4 ∈ ns)), optV (dueOf (!decide (0 ∈ ns)) (!decide (1 ∈ ns)) (!decide (2 ∈ ns)) (!decide (3 ∈ ns)) !decide (1 ∈ ns))])) := fun b o e n => by
          rw [upd_ne (nh b o e n)]
          exact (XX17.trans (X18.trans (ExtN.of S19))) b o e n
        have tab20 := Tabs.upd (o := .lst [optV (dueOf (!decide (0 ∈ ns)) (!decide (1 ∈ ns)) (!decide (2 ∈ ns)) (!decide (3 ∈ ns)) !decide (4 ∈ ns)), optV (dueOf (!decide (0 ∈ ns)) (!decide (1 ∈ ns)) (!decide (2 ∈ ns)) (!decide (3 ∈ ns)) !decide (4 ∈ ns)), optV (dueOf (!decide (0 ∈ ns)) (!decide (1 ∈ ns)) (!decide (2 ∈ ns)) (!decide (3 ∈ ns)) !decide (1 ∈ ns))]) tab19 eh19
        have eh20 := upd_same (H := H19) (a := h1) (o := .lst [optV (dueOf (!decide (0 ∈ ns)) (!decide (1 ∈ ns)) (!decide (2 ∈ ns)) (!decide (3 ∈ ns)) !decide (4 ∈ ns)), optV (dueOf (!decide (0 ∈ ns)) (!decide (1 ∈ ns)) (!decide (2 ∈ ns)) (!decide (3 ∈ ns)) !decide (4 ∈ ns)), optV (dueOf (!decide (0 ∈ ns)) (!decide (1 ∈ ns)) (!decide (2 ∈ ns)) (!decide (3 ∈ ns)) !decide (1 ∈ ns))])
        generalize upd H19 h1 (.lst [optV (dueOf (!decide (0 ∈ ns)) (!decide (1 ∈ ns)) (!decide (2 ∈ ns)) (!decide (3 ∈ ns)) !decide (4 ∈ ns)), optV (dueOf (!decide (0 ∈ ns)) (!decide (1 ∈ ns)) (!decide (2 ∈ ns)) (!decide (3 ∈ ns)) !decide (4 ∈ ns)), optV (dueOf (!decide (0 ∈ ns)) (!decide (1 ∈ ns)) (!decide (2 ∈ ns)) (!decide (3 ∈ ns)) !decide (1 ∈ ns))]) = H20 at XX20 tab20 eh20 ⊢
        repeat walk_at "s"
        refine t_bm ?_
        repeat walk_at "s"
        refine ⟨.inl ⟨rfl, _, .inl (.inl eh20)⟩, ?_⟩
        repeat walk_at "s"
        refine t_lam tab20 fun H21 X21 tab21 Ech Qc hE hQ => ?_
        have ew21 := (XX20.trans X21) _ _ ew2 (fun _ z => by cases z)
        dsimp only
        refine t_makeK ?_
        repeat walk_at "s"
        refine r_ixL (.inl (.inl ew21)) rfl ?_
        repeat walk_at "s"
        refine r_ixL (.inl (.inl ew21)) rfl ?_
        repeat walk_at "s"
        refine r_ixL (.inl (.inl ew21)) rfl ?_
        repeat walk_at "s"
        refine r_ixL (.inl (.inl ew21)) rfl ?_
        repeat walk_at "s"
        refine ⟨rfl, rfl, ?_⟩
        intro x dx hx hdx hne
        refine ⟨x, dx, _, _, _, _, rfl, upd_same, ?_⟩
        refine mk_trip tcS ⟨(pa H21 (GX.trans (ext_t (XX20.trans X21)))).n, (pa H21 (GX.trans (ext_t (XX20.trans X21)))).s, (pa H21 (GX.trans (ext_t (XX20.trans X21)))).l, (pa H21 (GX.trans (ext_t (XX20.trans X21)))).t, (pa H21 (GX.trans (ext_t (XX20.trans X21)))).s⟩ hE hQ (fun H22 S22 => ?_) hx hdx
        have eh22 := (X21.trans (ExtN.of S22)) _ _ eh20 (fun _ z => by cases z)
        have tab22 := Tabs.same tab21 S22
        repeat walk_at "s"
        refine ⟨h1, _, _, rfl, rfl, eh22, Nat.lt_of_le_of_lt (Nat.le_of_ble_eq_true (m := 10) rfl) (by decide), ?_⟩
        simp only [List.cons_append, List.nil_append]
        have XX23 : ExtN H11 (upd H22 h1 (.lst [optV (dueOf (!decide (0 ∈ ns)) (!decide (1 ∈ ns)) (!decide (2 ∈ ns)) (!decide (3 ∈ ns)) !decide (4 ∈ ns)), optV (dueOf (!decide (0 ∈ ns)) (!decide (1 ∈ ns)) (!decide (2 ∈ ns)) (!decide (3 ∈ ns)) !decide (4 ∈ ns)), optV (dueOf (!decide (0 ∈ ns)) (!decide (1 ∈ ns)) (!decide (2 ∈ ns)) (!decide (3 ∈ ns)) !decide (1 ∈ ns)), optV (dueOf (!decide (0 ∈ ns)) (!decide (1 ∈ ns)) (!decide (2 ∈ ns)) (!decide (3 ∈ ns)) !decide (1 ∈ ns))])) := fun b o e n => by
          rw [upd_ne (nh b o e n)]
          exact (XX20.trans (X21.trans (ExtN.of S22))) b o e n
        have tab23 := Tabs.upd (o := .lst [optV (dueOf (!decide (0 ∈ ns)) (!decide (1 ∈ ns)) (!decide (2 ∈ ns)) (!decide (3 ∈ ns)) !decide (4 ∈ ns)), optV (dueOf (!decide (0 ∈ ns)) (!decide (1 ∈ ns)) (!decide (2 ∈ ns)) (!decide (3 ∈ ns)) !decide (4 ∈ ns)), optV (dueOf (!decide (0 ∈ ns)) (!decide (1 ∈ ns)) (!decide (2 ∈ ns)) (!decide (3 ∈ ns)) !decide (1 ∈ ns)), optV (dueOf (!decide (0 ∈ ns)) (!decide (1 ∈ ns)) (!decide (2 ∈ ns)) (!decide (3 ∈ ns)) !decide (1 ∈ ns))]) tab22 eh22
        have eh23 := upd_same (H := H22) (a := h1) (o := .lst [optV (dueOf (!decide (0 ∈ ns)) (!decide (1 ∈ ns)) (!decide (2 ∈ ns)) (!decide (3 ∈ ns)) !decide (4 ∈ ns)), optV (dueOf (!decide (0 ∈ ns)) (!decide (1 ∈ ns)) (!decide (2 ∈ ns)) (!decide (3 ∈ ns)) !decide (4 ∈ ns)), optV (dueOf (!decide (0 ∈ ns)) (!decide (1 ∈ ns)) (!decide (2 ∈ ns)) (!decide (3 ∈ ns)) !decide (1 ∈ ns)), optV (dueOf (!decide (0 ∈ ns)) (!decide (1 ∈ ns)) (!decide (2 ∈ ns)) (!decide (3 ∈ ns)) !decide (1 ∈ ns))])
        generalize upd H22 h1 (.lst [optV (dueOf (!decide (0 ∈ ns)) (!decide (1 ∈ ns)) (!decide (2 ∈ ns)) (!decide (3 ∈ ns)) !decide (4 ∈ ns)), optV (dueOf (!decide (0 ∈ ns)) (!decide (1 ∈ ns)) (!decide (2 ∈ ns)) (!decide (3 ∈ ns)) !decide (4 ∈ ns)), optV (dueOf (!decide (0 ∈ ns)) (!decide (1 ∈ ns)) (!decide (2 ∈ ns)) (!decide (3 ∈ ns)) !decide (1 ∈ ns)), optV (dueOf (!decide (0 ∈ ns)) (!decide (1 ∈ ns)) (!decide (2 ∈ ns)) (!decide (3 ∈ ns)) !decide (1 ∈ ns))]) = H23 at XX23 tab23 eh23 ⊢
        repeat walk_at "s"
        have ew23 := XX23 _ _ ew1 (fun _ z => by cases z)
        refine ⟨w1, ns, rfl, ew23, e2, e3, fun H24 S24 => ?_⟩
        have ew24 := S24 _ _ ew23
        repeat walk_at "s"
        refine t_lcL ?_
        repeat walk_at "s"
        refine ⟨w1, rfl, ⟨_, .inl (.inl ew24)⟩, fun w3 hw3 => ?_⟩
        refine lcL_filter (f := fun x => match x with | .int k => decide (k < 4) | _ => false) (by rw [List.length_map]; omega) (fun l => .inl (.inl (Same.new hw3 _ _ ew24))) (fun x hx R N l h1 h2 => ?_) ?_
        · obtain ⟨k, hk1, rfl⟩ := List.mem_map.mp hx
          dsimp only at h1 h2
          repeat walk_at "s"
          refine ⟨rfl, ?_⟩
          repeat walk_at "s"
          refine ite_d (fun hk => ?_) fun hk => ?_
          · repeat walk_at "s"
            exact h1 (decide_eq_true hk)
          · exact h2 (decide_eq_false hk)
        · have ef : (ns.map fun (k : Nat) => V.int (k : Int)).filter (fun x => match x with | .int k => decide (k < 4) | _ => false) = (ns.filter fun n => decide (n < 4)).map fun (k : Nat) => V.int (k : Int) := by
            rw [List.filter_map]
            congr 1
            refine List.filter_congr fun k _ => ?_
            show decide ((k : Int) < 4) = decide (k < 4)
            by_cases h : k < 4
            · rw [decide_eq_true h, decide_eq_true (by omega)]
            · rw [decide_eq_false h, decide_eq_false (by omega)]
          rw [ef]
          repeat walk_at "s"
          refine ⟨w3, _, rfl, upd_same, Nat.le_trans (List.length_filter_le _ _) e2, fun k hk => e3 k (List.mem_filter.mp hk).1, fun H25 S25 => ?_⟩
          rw [dueW_eq e3, dueW_lone e3]
          repeat walk_at "s"
          refine ⟨lst_ok rfl, fun z5 hz5 => ?_⟩
          have SS := (S24.trans (Same.new (o := .lst ((ns.filter fun n => decide (n < 4)).map fun (k : Nat) => V.int (k : Int))) hw3)).trans S25
          have eh25 := SS _ _ eh23
          have SZ := SS.trans (Same.new (o := .lst [optV (dueOf (!decide (0 ∈ ns)) (!decide (1 ∈ ns)) (!decide (2 ∈ ns)) (!decide (3 ∈ ns)) !decide (4 ∈ ns)), optV (dueOf (!decide (0 ∈ ns)) (!decide (1 ∈ ns)) (!decide (2 ∈ ns)) (!decide (3 ∈ ns)) !decide (4 ∈ ns)), optV (dueOf (!decide (0 ∈ ns)) (!decide (1 ∈ ns)) (!decide (2 ∈ ns)) (!decide (3 ∈ ns)) !decide (1 ∈ ns)), optV (dueOf (!decide (0 ∈ ns)) (!decide (1 ∈ ns)) (!decide (2 ∈ ns)) (!decide (3 ∈ ns)) !decide (1 ∈ ns))]) hz5)
          refine r_eqSame (d := .list [optD (dueOf (!decide (0 ∈ ns)) (!decide (1 ∈ ns)) (!decide (2 ∈ ns)) (!decide (3 ∈ ns)) !decide (4 ∈ ns)), optD (dueOf (!decide (0 ∈ ns)) (!decide (1 ∈ ns)) (!decide (2 ∈ ns)) (!decide (3 ∈ ns)) !decide (4 ∈ ns)), optD (dueOf (!decide (0 ∈ ns)) (!decide (1 ∈ ns)) (!decide (2 ∈ ns)) (!decide (3 ∈ ns)) !decide (1 ∈ ns)), optD (dueOf (!decide (0 ∈ ns)) (!decide (1 ∈ ns)) (!decide (2 ∈ ns)) (!decide (3 ∈ ns)) !decide (1 ∈ ns))]) (.lst (.inl (.inl (Same.new hz5 _ _ eh25))) (.cons (dp_opt _) (.cons (dp_opt _) (.cons (dp_opt _) (.cons (dp_opt _) .nil))))) (.lst (.inl (.inl upd_same)) (.cons (dp_opt _) (.cons (dp_opt _) (.cons (dp_opt _) (.cons (dp_opt _) .nil))))) ?_ ?_
          · exact shaped4 (due_ok _ _ _ _ _) (due_ok _ _ _ _ _)
          · exact q _ ((GT11.trans (ext_t XX23)).trans (same_t SZ)) ((pen11.ext XX23).same SZ) (Tabs.same tab23 SZ)
def spEdges (A : Ad) : Sp := fun vs H Q _ => vs = [] ∧ Tabs (Ts A) H ∧ ∀ H' : Hp, Q (.bl true) H'
theorem ok_edges_right (T : Txt P K mg A D) (TB : Tbs base mg A) : FnOk P w K mg base CX0 9 A.edges_right D.edges_right [] (spEdges A) := by
  refine FunL.ok T.f_edges_right sc_edges_right (fun vs H Q E h => ?_) (fun Ar outer s H vs Q E hr h => ?_)
  · obtain ⟨rfl, _⟩ := h
    rfl
  · obtain ⟨rfl, tab0, q⟩ := h
    refine ⟨_, (pss_cons (ps_set (i := 0) sc_edges_right.nd rfl (Or.inr rfl) (pe_op op_pow pe_int pe_int)) (pss_cons (ps_set (i := 1) sc_edges_right.nd rfl (Or.inl rfl) (pe_lst (pa_cons (pe_lam (T := Ts A) (k := 6) T.f_heard T.b_heard sc_heard (fun _ => gives_heard T) rfl T.m_heard TB.t_edges_right rfl (by simp [Ts]; first | rfl | exact .inl rfl | exact .inr rfl | exact .inr (.inl rfl)) (ts_edges_right T) (hr.mono (by decide)) (lamS_by (sc := defScope s_edges_right) (by decide +kernel)) (fun _ _ _ _ _ _ _ hr => (pe_make T.mk_Run (ok_Run_init T) (hr.mono (by decide)) rfl T.m_Run T.b_Run_init .nil (passes_call (takes_of rfl rfl rfl rfl) (fun _ _ _ _ h => h)) (pa_cons pe_str (pa_cons pe_str (pa_cons pe_int (pa_cons pe_int (pa_cons pe_str pa_nil)))))))) pa_nil))) (pss_cons (ps_expr (pe_bm PySem.F.plainAttrs_list PySem.F.slot_list_append PySem.F.type_list_append mt_append (pv 1) (pa_cons (pe_lam (T := Ts A) (k := 6) T.f_heard T.b_heard sc_heard (fun _ => gives_heard T) rfl T.m_heard TB.t_edges_right rfl (by simp [Ts]; first | rfl | exact .inl rfl | exact .inr rfl | exact .inr (.inl rfl)) (ts_edges_right T) (hr.mono (by decide)) (lamS_by (sc := defScope s_edges_right) (by decide +kernel)) (fun _ _ _ _ _ _ _ hr => (pe_make T.mk_Run (ok_Run_init T) (hr.mono (by decide)) rfl T.m_Run T.b_Run_init .nil (passes_call (takes_of rfl rfl rfl rfl) (fun _ _ _ _ h => h)) (pa_cons pe_str (pa_cons pe_str (pa_cons (pv 0) (pa_cons (pv 0) (pa_cons pe_str pa_nil)))))))) pa_nil))) (pss_cons (ps_expr (pe_bm PySem.F.plainAttrs_list PySem.F.slot_list_append PySem.F.type_list_append mt_append (pv 1) (pa_cons (pe_lam (T := Ts A) (k := 6) T.f_heard T.b_heard sc_heard (fun _ => gives_heard T) rfl T.m_heard TB.t_edges_right rfl (by simp [Ts]; first | rfl | exact .inl rfl | exact .inr rfl | exact .inr (.inl rfl)) (ts_edges_right T) (hr.mono (by decide)) (lamS_by (sc := defScope s_edges_right) (by decide +kernel)) (fun _ _ _ _ _ _ _ hr => (pe_make T.mk_Stay (ok_Stay_init T) (hr.mono (by decide)) rfl T.m_Stay T.b_Stay_init .nil (passes_call (takes_of rfl rfl rfl rfl) (fun _ _ _ _ h => h)) (pa_cons pe_str (pa_cons pe_str (pa_cons (pe_op op_add (pv 0) pe_int) (pa_cons pe_int pa_nil))))))) pa_nil))) (pss_cons (ps_expr (pe_bm PySem.F.plainAttrs_list PySem.F.slot_list_append PySem.F.type_list_append mt_append (pv 1) (pa_cons (pe_lam (T := Ts A) (k := 6) T.f_heard T.b_heard sc_heard (fun _ => gives_heard T) rfl T.m_heard TB.t_edges_right rfl (by simp [Ts]; first | rfl | exact .inl rfl | exact .inr rfl | exact .inr (.inl rfl)) (ts_edges_right T) (hr.mono (by decide)) (lamS_by (sc := defScope s_edges_right) (by decide +kernel)) (fun _ _ _ _ _ _ _ hr => (pe_make T.mk_Stay (ok_Stay_init T) (hr.mono (by decide)) rfl T.m_Stay T.b_Stay_init .nil (passes_call (takes_of rfl rfl rfl rfl) (fun _ _ _ _ h => h)) (pa_cons pe_str (pa_cons pe_str (pa_cons pe_int (pa_cons (pe_op op_add (pv 0) pe_int) pa_nil))))))) pa_nil))) (pss_cons (ps_expr (pe_bm PySem.F.plainAttrs_list PySem.F.slot_list_append PySem.F.type_list_append mt_append (pv 1) (pa_cons (pe_lam (T := Ts A) (k := 6) T.f_heard T.b_heard sc_heard (fun _ => gives_heard T) rfl T.m_heard TB.t_edges_right rfl (by simp [Ts]; first | rfl | exact .inl rfl | exact .inr rfl | exact .inr (.inl rfl)) (ts_edges_right T) (hr.mono (by decide)) (lamS_by (sc := defScope s_edges_right) (by decide +kernel)) (fun _ _ _ _ _ _ _ hr => (pe_make T.mk_Stay (ok_Stay_init T) (hr.mono (by decide)) rfl T.m_Stay T.b_Stay_init .nil (passes_call (takes_of rfl rfl rfl rfl) (fun _ _ _ _ h => h)) (pa_cons pe_str (pa_cons pe_str (pa_cons (pv 0) (pa_cons (pv 0) pa_nil))))))) pa_nil))) (pss_cons (ps_expr (pe_bm PySem.F.plainAttrs_list PySem.F.slot_list_append PySem.F.type_list_append mt_append (pv 1) (pa_cons (pe_lam (T := Ts A) (k := 6) T.f_heard T.b_heard sc_heard (fun _ => gives_heard T) rfl T.m_heard TB.t_edges_right rfl (by simp [Ts]; first | rfl | exact .inl rfl | exact .inr rfl | exact .inr (.inl rfl)) (ts_edges_right T) (hr.mono (by decide)) (lamS_by (sc := defScope s_edges_right) (by decide +kernel)) (fun _ _ _ _ _ _ _ hr => (pe_make T.mk_Run (ok_Run_init T) (hr.mono (by decide)) rfl T.m_Run T.b_Run_init .nil (passes_call (takes_of rfl rfl rfl rfl) (fun _ _ _ _ h => h)) (pa_cons pe_str (pa_cons pe_str (pa_cons (pe_un un_neg pe_int) (pa_cons pe_int (pa_cons pe_str pa_nil)))))))) pa_nil))) (pss_one (ps_ret (pe_cmpR (op_eqD hr.units) (pv 1) (pe_lst (pa_cons pe_non (pa_cons pe_non (pa_cons pe_str (pa_cons pe_str (pa_cons pe_non (pa_cons pe_str pa_nil))))))) (nomark _))))))))))), ?_⟩
    have tcR : TripC K A.Run := ⟨T.cl_Run, T.nR_name, T.nR_start, T.nR_leaves, T.nR_takes, T.nR_goal⟩
    have tcS : TripC K A.Stay := ⟨T.cl_Stay, T.nS_name, T.nS_start, T.nS_leaves, T.nS_takes, T.nS_goal⟩
    have e12 : (10 : Int) ^ Int.toNat 12 = 1000000000000 := by decide
    repeat walk_at "s"
    rw [e12]
    repeat walk_at "s"
    refine t_lam tab0 fun H1 X1 tab1 Ech Qc hE hQ => ?_
    dsimp only
    repeat walk_at "s"
    intro x dx hx hdx hne
    refine ⟨x, dx, _, _, _, _, _, rfl, upd_same, ?_⟩
    refine mk_trip tcR (Parts.mk (bn := true) (bs := true) (bl := true) (bt := true) (bg := true) (.inl ⟨_, rfl, Nat.le_of_ble_eq_true rfl, by decide +kernel⟩) (.inl ⟨_, rfl, Nat.le_of_ble_eq_true rfl, by decide +kernel⟩) (.inl ⟨_, rfl, by decide⟩) (.inl ⟨_, rfl, by decide⟩) (.inl ⟨_, rfl, Nat.le_of_ble_eq_true rfl, by decide +kernel⟩)) hE hQ (fun H2 S2 => ?_) hx hdx
    have tab2 := Tabs.same tab1 S2
    repeat walk_at "s"
    refine ⟨lst_ok rfl, fun h1 hh1 => ?_⟩
    generalize hgen : upd H2 h1 _ = H3
    have tab3 : Tabs (Ts A) H3 := hgen ▸ Tabs.same tab2 (Same.new hh1)
    have eh3 : H3 h1 = some (.lst [.non]) := by rw [← hgen]; exact upd_same
    clear hgen
    repeat walk_at "s"
    refine t_bm ?_
    repeat walk_at "s"
    refine ⟨.inl ⟨rfl, _, .inl (.inl eh3)⟩, ?_⟩
    repeat walk_at "s"
    refine t_lam tab3 fun H4 X4 tab4 Ech Qc hE hQ => ?_
    dsimp only
    repeat walk_at "s"
    intro x dx hx hdx hne
    refine ⟨x, dx, _, _, _, _, _, rfl, upd_same, ?_⟩
    refine mk_trip tcR (Parts.mk (bn := true) (bs := true) (bl := true) (bt := true) (bg := true) (.inl ⟨_, rfl, Nat.le_of_ble_eq_true rfl, by decide +kernel⟩) (.inl ⟨_, rfl, Nat.le_of_ble_eq_true rfl, by decide +kernel⟩) (.inl ⟨_, rfl, by decide⟩) (.inl ⟨_, rfl, by decide⟩) (.inl ⟨_, rfl, Nat.le_of_ble_eq_true rfl, by decide +kernel⟩)) hE hQ (fun H5 S5 => ?_) hx hdx
    have tab5 := Tabs.same tab4 S5
    have eh5 := (X4.trans (ExtN.of S5)) _ _ eh3 (fun _ z => by cases z)
    repeat walk_at "s"
    refine ⟨h1, _, _, rfl, rfl, eh5, Nat.lt_of_le_of_lt (Nat.le_of_ble_eq_true (m := 10) rfl) (by decide), ?_⟩
    dsimp only
    generalize hgen : upd H5 h1 _ = H6
    have tab6 : Tabs (Ts A) H6 := hgen ▸ Tabs.upd tab5 eh5
    have eh6 : H6 h1 = some (.lst [.non, .non]) := by rw [← hgen]; exact upd_same
    clear hgen
    repeat walk_at "s"
    refine t_bm ?_
    repeat walk_at "s"
    refine ⟨.inl ⟨rfl, _, .inl (.inl eh6)⟩, ?_⟩
    repeat walk_at "s"
    refine t_lam tab6 fun H7 X7 tab7 Ech Qc hE hQ => ?_
    dsimp only
    repeat walk_at "s"
    intro x dx hx hdx hne
    refine ⟨x, dx, _, _, _, _, rfl, upd_same, ?_⟩
    refine mk_trip tcS (Parts.mk (bn := true) (bs := true) (bl := false) (bt := true) (bg := true) (.inl ⟨_, rfl, Nat.le_of_ble_eq_true rfl, by decide +kernel⟩) (.inl ⟨_, rfl, Nat.le_of_ble_eq_true rfl, by decide +kernel⟩) (.inl ⟨_, rfl, by decide⟩) (.inl ⟨_, rfl, by decide⟩) (.inl ⟨_, rfl, Nat.le_of_ble_eq_true rfl, by decide +kernel⟩)) hE hQ (fun H8 S8 => ?_) hx hdx
    have tab8 := Tabs.same tab7 S8
    have eh8 := (X7.trans (ExtN.of S8)) _ _ eh6 (fun _ z => by cases z)
    repeat walk_at "s"
    refine ⟨h1, _, _, rfl, rfl, eh8, Nat.lt_of_le_of_lt (Nat.le_of_ble_eq_true (m := 10) rfl) (by decide), ?_⟩
    dsimp only
    generalize hgen : upd H8 h1 _ = H9
    have tab9 : Tabs (Ts A) H9 := hgen ▸ Tabs.upd tab8 eh8
    have eh9 : H9 h1 = some (.lst [.non, .non, .str "leaves"]) := by rw [← hgen]; exact upd_same
    clear hgen
    repeat walk_at "s"
    refine t_bm ?_
    repeat walk_at "s"
    refine ⟨.inl ⟨rfl, _, .inl (.inl eh9)⟩, ?_⟩
    repeat walk_at "s"
    refine t_lam tab9 fun H10 X10 tab10 Ech Qc hE hQ => ?_
    dsimp only
    repeat walk_at "s"
    intro x dx hx hdx hne
    refine ⟨x, dx, _, _, _, _, rfl, upd_same, ?_⟩
    refine mk_trip tcS (Parts.mk (bn := true) (bs := true) (bl := true) (bt := false) (bg := true) (.inl ⟨_, rfl, Nat.le_of_ble_eq_true rfl, by decide +kernel⟩) (.inl ⟨_, rfl, Nat.le_of_ble_eq_true rfl, by decide +kernel⟩) (.inl ⟨_, rfl, by decide⟩) (.inl ⟨_, rfl, by decide⟩) (.inl ⟨_, rfl, Nat.le_of_ble_eq_true rfl, by decide +kernel⟩)) hE hQ (fun H11 S11 => ?_) hx hdx
    have tab11 := Tabs.same tab10 S11
    have eh11 := (X10.trans (ExtN.of S11)) _ _ eh9 (fun _ z => by cases z)
    repeat walk_at "s"
    refine ⟨h1, _, _, rfl, rfl, eh11, Nat.lt_of_le_of_lt (Nat.le_of_ble_eq_true (m := 10) rfl) (by decide), ?_⟩
    dsimp only
    generalize hgen : upd H11 h1 _ = H12
    have tab12 : Tabs (Ts A) H12 := hgen ▸ Tabs.upd tab11 eh11
    have eh12 : H12 h1 = some (.lst [.non, .non, .str "leaves", .str "takes"]) := by rw [← hgen]; exact upd_same
    clear hgen
    repeat walk_at "s"
    refine t_bm ?_
    repeat walk_at "s"
    refine ⟨.inl ⟨rfl, _, .inl (.inl eh12)⟩, ?_⟩
    repeat walk_at "s"
    refine t_lam tab12 fun H13 X13 tab13 Ech Qc hE hQ => ?_
    dsimp only
    repeat walk_at "s"
    intro x dx hx hdx hne
    refine ⟨x, dx, _, _, _, _, rfl, upd_same, ?_⟩
    refine mk_trip tcS (Parts.mk (bn := true) (bs := true) (bl := true) (bt := true) (bg := true) (.inl ⟨_, rfl, Nat.le_of_ble_eq_true rfl, by decide +kernel⟩) (.inl ⟨_, rfl, Nat.le_of_ble_eq_true rfl, by decide +kernel⟩) (.inl ⟨_, rfl, by decide⟩) (.inl ⟨_, rfl, by decide⟩) (.inl ⟨_, rfl, Nat.le_of_ble_eq_true rfl, by decide +kernel⟩)) hE hQ (fun H14 S14 => ?_) hx hdx
    have tab14 := Tabs.same tab13 S14
    have eh14 := (X13.trans (ExtN.of S14)) _ _ eh12 (fun _ z => by cases z)
    repeat walk_at "s"
    refine ⟨h1, _, _, rfl, rfl, eh14, Nat.lt_of_le_of_lt (Nat.le_of_ble_eq_true (m := 10) rfl) (by decide), ?_⟩
    dsimp only
    generalize hgen : upd H14 h1 _ = H15
    have tab15 : Tabs (Ts A) H15 := hgen ▸ Tabs.upd tab14 eh14
    have eh15 : H15 h1 = some (.lst [.non, .non, .str "leaves", .str "takes", .non]) := by rw [← hgen]; exact upd_same
    clear hgen
    repeat walk_at "s"
    refine t_bm ?_
    repeat walk_at "s"
    refine ⟨.inl ⟨rfl, _, .inl (.inl eh15)⟩, ?_⟩
    repeat walk_at "s"
    refine t_lam tab15 fun H16 X16 tab16 Ech Qc hE hQ => ?_
    dsimp only
    repeat walk_at "s"
    intro x dx hx hdx hne
    refine ⟨x, dx, _, _, _, _, _, rfl, upd_same, ?_⟩
    refine mk_trip tcR (Parts.mk (bn := true) (bs := true) (bl := false) (bt := false) (bg := true) (.inl ⟨_, rfl, Nat.le_of_ble_eq_true rfl, by decide +kernel⟩) (.inl ⟨_, rfl, Nat.le_of_ble_eq_true rfl, by decide +kernel⟩) (.inl ⟨_, rfl, by decide⟩) (.inl ⟨_, rfl, by decide⟩) (.inl ⟨_, rfl, Nat.le_of_ble_eq_true rfl, by decide +kernel⟩)) hE hQ (fun H17 S17 => ?_) hx hdx
    have tab17 := Tabs.same tab16 S17
    have eh17 := (X16.trans (ExtN.of S17)) _ _ eh15 (fun _ z => by cases z)
    repeat walk_at "s"
    refine ⟨h1, _, _, rfl, rfl, eh17, Nat.lt_of_le_of_lt (Nat.le_of_ble_eq_true (m := 10) rfl) (by decide), ?_⟩
    dsimp only
    generalize hgen : upd H17 h1 _ = H18
    have tab18 : Tabs (Ts A) H18 := hgen ▸ Tabs.upd tab17 eh17
    have eh18 : H18 h1 = some (.lst [.non, .non, .str "leaves", .str "takes", .non, .str "leaves"]) := by rw [← hgen]; exact upd_same
    clear hgen
    repeat walk_at "s"
    refine ⟨lst_ok rfl, fun z5 hz5 => ?_⟩
    refine r_eqSame (d := .list [.none, .none, .str "leaves", .str "takes", .none, .str "leaves"]) (.lst (.inl (.inl (Same.new hz5 _ _ eh18))) (.cons .non (.cons .non (.cons (.str _) (.cons (.str _) (.cons .non (.cons (.str _) .nil))))))) (.lst (.inl (.inl upd_same)) (.cons .non (.cons .non (.cons (.str _) (.cons (.str _) (.cons .non (.cons (.str _) .nil))))))) (by decide +kernel) ?_
    exact q _
def spLaw (K : PySem.W.Frag) (A : Ad) : Sp := fun vs H Q _ => ∃ (a : Addr) (ns : List Int), vs = [.ref a] ∧ SqL K H a (ns.map V.int) ∧ ns.length ≤ 63 ∧ (H A.right_p = some (.tbl #[]) ∧ H A.edges_right_p = some (.tbl #[])) ∧ ∀ H', Q (.bl true) H'
theorem ok_law (T : Txt P K mg A D) (TB : Tbs base mg A) : FnOk P w K mg base CX0 10 A.law D.law ["_law_script"] (spLaw K A) := by
  refine T.f_law.ok sc_law (fun vs H Q E h => ?_) (fun cdv Ar outer s H vs Q E hr h => ?_)
  · obtain ⟨a, ns, rfl, _⟩ := h
    rfl
  · obtain ⟨a, ns, rfl, hS, hn, ⟨t1, t2⟩, q⟩ := h
    have tab : Tabs (Ts A) H := by
      intro p hp
      simp only [Ts, List.mem_cons, List.not_mem_nil, or_false] at hp
      rcases hp with rfl | rfl
      · exact TabS.nil t1
      · exact TabS.nil t2
    refine ⟨_, (pss_cons (ps_set (i := 1) sc_law.nd rfl (Or.inl rfl) (pe_call (ok_pen T) (hr.mono (by decide)) rfl T.m_pen T.f_pen.kp T.b_pen .nil pass0 (pa_cons (pv 0) pa_nil))) (pss_cons (ps_for PassesOwn.never rfl (pi_range1 rfl T.n_range (pa_cons pe_int pa_nil)) (pg_name (i := 2) sc_law.nd rfl (Or.inl rfl)) (pss_one (ps_if (pt_not (pt_val (pe_call (ok_right T TB) (hr.mono (by decide)) rfl T.m_right T.f_right.kp T.b_right .nil pass0 (pa_cons (pv 1) pa_nil)))) (pss_one (ps_ret pe_bl)) pss_nil))) (pss_one (ps_ret (pe_call0 (ok_edges_right T TB) (hr.mono (by decide)) rfl T.m_edges_right T.f_edges_right.kp T.b_edges_right .nil pass0))))), ?_⟩
    repeat walk_at "s"
    refine ⟨a, ns, rfl, hS, hn, fun p H1 S1 np pen1 => ?_⟩
    repeat walk_at "s"
    refine ex_rng (n := 12) rfl (by decide) (fun i σ' H' => (∃ v1, σ' = [some (.ref a), some (.ref p), v1]) ∧ Pen p H' (1200 - 100 * i) ∧ Tabs (Ts A) H') ⟨⟨_, rfl⟩, pen1.le (by omega), Tabs.same tab S1⟩ ?_ ?_
    · rintro i σ' H2 hi ⟨⟨v1, rfl⟩, pen2, tab2⟩
      repeat walk_at "s"
      refine ⟨p, 1200 - 100 * i - 12, rfl, pen2.le (by omega), tab2, fun H3 G3 pen3 tab3 => ?_⟩
      repeat walk_at "s"
      exact ⟨⟨_, rfl⟩, pen3.le (by omega), tab3⟩
    · rintro σ' H2 ⟨⟨v1, rfl⟩, pen2, tab2⟩
      repeat walk_at "s"
      exact ⟨rfl, tab2, q⟩
end
theorem all_mk {P : Program} {w : World} {K : PySem.W.Frag} {h : Heap} {mg : Str → Option Value} {fa : Addr} (X : K.In h) (G : h.Ns mainGlobals mg) (hfa : mg "law" = some (.ref fa))
    {CTurnError CBadInput CRefused CBadTrip CTrip CRun CStay fis_integer fis_between fis_number fis_name fBadTrip_init fTrip_init fRun_init fStay_init fpen fdraw fpick fheard fno_name fno_number fdue fright fedges_right flaw lcright lpright lcedges_right lpedges_right : Addr} {od0 an0 od1 an1 od2 an2 od3 an3 od4 an4 od5 an5 od6 an6 od7 an7 od8 an8 od9 an9 od10 an10 od11 an11 od12 an12 od13 an13 od14 an14 od15 an15 od16 an16 od17 an17 : Option Addr} {sl0 sl1 sl2 sl3 sl4 sl5 sl6 sl7 sl8 sl9 sl10 sl11 sl12 sl13 sl14 sl15 sl16 sl17 : Array (Option Value)} {oc0 kV0 dc0 pm0 cd0 ct0 oc1 kV1 dc1 pm1 cd1 ct1 oc2 kV2 dc2 pm2 cd2 ct2 oc3 kV3 dc3 pm3 cd3 ct3 oc4 kV4 dc4 pm4 ct4 oc5 kV5 dc5 pm5 cd5 ct5 oc6 kV6 dc6 pm6 ct6 oc7 kV7 dc7 pm7 ct7 oc8 kV8 dc8 pm8 cd8 ct8 oc9 kV9 dc9 pm9 cd9 ct9 oc10 kV10 dc10 pm10 cd10 ct10 oc11 kV11 dc11 pm11 cd11 ct11 oc12 kV12 dc12 pm12 cd12 ct12 oc13 kV13 dc13 pm13 cd13 ct13 oc14 kV14 dc14 pm14 cd14 ct14 oc15 kV15 dc15 pm15 ct15 oc16 kV16 dc16 pm16 ct16 oc17 kV17 dc17 pm17 cd17 ct17 : Value} {ca4 cc4 ca6 cc6 ca7 cc7 : Addr}
    (aCTurnError : PySem.W.nsIn K mainGlobals "TurnError" = some (some (.ref CTurnError)))
    (aCBadInput : PySem.W.nsIn K mainGlobals "BadInput" = some (some (.ref CBadInput)))
    (aCRefused : PySem.W.nsIn K mainGlobals "Refused" = some (some (.ref CRefused)))
    (aCBadTrip : PySem.W.nsIn K mainGlobals "BadTrip" = some (some (.ref CBadTrip)))
    (aCTrip : PySem.W.nsIn K mainGlobals "Trip" = some (some (.ref CTrip)))
    (aCRun : PySem.W.nsIn K mainGlobals "Run" = some (some (.ref CRun)))
    (aCStay : PySem.W.nsIn K mainGlobals "Stay" = some (some (.ref CStay)))
    (afis_integer : PySem.W.nsIn K mainGlobals "is_integer" = some (some (.ref fis_integer)))
    (lfis_integer : K.lookup fis_integer = some ⟨oc0, od0, .func (PySem.W.fnOf "is_integer" "is_integer" (defArgs s_is_integer) (defBody s_is_integer) (defScope s_is_integer) .none kV0 dc0 pm0 an0 cd0 ct0), sl0⟩)
    (cfis_integer : PySem.W.codeIn K cd0 "is_integer" = true)
    (kfis_integer : PySem.W.keepIn K (.ref fis_integer) = true)
    (afis_between : PySem.W.nsIn K mainGlobals "is_between" = some (some (.ref fis_between)))
    (lfis_between : K.lookup fis_between = some ⟨oc1, od1, .func (PySem.W.fnOf "is_between" "is_between" (defArgs s_is_between) (defBody s_is_between) (defScope s_is_between) .none kV1 dc1 pm1 an1 cd1 ct1), sl1⟩)
    (cfis_between : PySem.W.codeIn K cd1 "is_between" = true)
    (kfis_between : PySem.W.keepIn K (.ref fis_between) = true)
    (afis_number : PySem.W.nsIn K mainGlobals "is_number" = some (some (.ref fis_number)))
    (lfis_number : K.lookup fis_number = some ⟨oc2, od2, .func (PySem.W.fnOf "is_number" "is_number" (defArgs s_is_number) (defBody s_is_number) (defScope s_is_number) .none kV2 dc2 pm2 an2 cd2 ct2), sl2⟩)
    (cfis_number : PySem.W.codeIn K cd2 "is_number" = true)
    (kfis_number : PySem.W.keepIn K (.ref fis_number) = true)
    (afis_name : PySem.W.nsIn K mainGlobals "is_name" = some (some (.ref fis_name)))
    (lfis_name : K.lookup fis_name = some ⟨oc3, od3, .func (PySem.W.fnOf "is_name" "is_name" (defArgs s_is_name) (defBody s_is_name) (defScope s_is_name) .none kV3 dc3 pm3 an3 cd3 ct3), sl3⟩)
    (cfis_name : PySem.W.codeIn K cd3 "is_name" = true)
    (kfis_name : PySem.W.keepIn K (.ref fis_name) = true)
    (afBadTrip_init : PySem.W.findIn K (.ref CBadTrip) "__init__" = some (some (.ref fBadTrip_init)))
    (ifBadTrip_init : PySem.W.isFn K (.ref fBadTrip_init) = true)
    (lfBadTrip_init : K.lookup fBadTrip_init = some ⟨oc4, od4, .func (PySem.W.ksFn "__init__" "BadTrip.__init__" (defArgs s_BadTrip_init) (defBody s_BadTrip_init) (defScope s_BadTrip_init) .none kV4 dc4 pm4 an4 (.ref ca4) ct4 cc4), sl4⟩)
    (cfBadTrip_init : PySem.W.codeIn K (.ref ca4) "BadTrip.__init__" = true)
    (kfBadTrip_init : PySem.W.keepIn K (.ref fBadTrip_init) = true)
    {cl4 cy4 : Value} {cld4 cdd4 : Option Addr} {csl4 ccs4 : Array (Option Value)} {vs4 : Array Value} {fl4 : Str} {tf4 : Tok} {kd4 : ClassData}
    (efBadTrip_init : K.lookup cc4 = some ⟨cl4, cld4, .cell (some (.ref CBadTrip)), csl4⟩)
    (ofBadTrip_init : K.lookup ca4 = some ⟨cy4, cdd4, .fields vs4, ccs4⟩)
    (vfBadTrip_init : vs4[2]? = some (.str fl4 tf4))
    (pfBadTrip_init : ((P.main.file : Str) == fl4) = true)
    (tfBadTrip_init : (P.main.scope.names.lookup ("super" : Str)).isSome = false)
    (dfBadTrip_init : PySem.W.clsIn K CBadTrip = some kd4)
    (afTrip_init : PySem.W.findIn K (.ref CTrip) "__init__" = some (some (.ref fTrip_init)))
    (ifTrip_init : PySem.W.isFn K (.ref fTrip_init) = true)
    (lfTrip_init : K.lookup fTrip_init = some ⟨oc5, od5, .func (PySem.W.fnOf "__init__" "Trip.__init__" (defArgs s_Trip_init) (defBody s_Trip_init) (defScope s_Trip_init) .none kV5 dc5 pm5 an5 cd5 ct5), sl5⟩)
    (cfTrip_init : PySem.W.codeIn K cd5 "Trip.__init__" = true)
    (kfTrip_init : PySem.W.keepIn K (.ref fTrip_init) = true)
    (afRun_init : PySem.W.findIn K (.ref CRun) "__init__" = some (some (.ref fRun_init)))
    (ifRun_init : PySem.W.isFn K (.ref fRun_init) = true)
    (lfRun_init : K.lookup fRun_init = some ⟨oc6, od6, .func (PySem.W.ksFn "__init__" "Run.__init__" (defArgs s_Run_init) (defBody s_Run_init) (defScope s_Run_init) .none kV6 dc6 pm6 an6 (.ref ca6) ct6 cc6), sl6⟩)
    (cfRun_init : PySem.W.codeIn K (.ref ca6) "Run.__init__" = true)
    (kfRun_init : PySem.W.keepIn K (.ref fRun_init) = true)
    {cl6 cy6 : Value} {cld6 cdd6 : Option Addr} {csl6 ccs6 : Array (Option Value)} {vs6 : Array Value} {fl6 : Str} {tf6 : Tok} {kd6 : ClassData}
    (efRun_init : K.lookup cc6 = some ⟨cl6, cld6, .cell (some (.ref CRun)), csl6⟩)
    (ofRun_init : K.lookup ca6 = some ⟨cy6, cdd6, .fields vs6, ccs6⟩)
    (vfRun_init : vs6[2]? = some (.str fl6 tf6))
    (pfRun_init : ((P.main.file : Str) == fl6) = true)
    (tfRun_init : (P.main.scope.names.lookup ("super" : Str)).isSome = false)
    (dfRun_init : PySem.W.clsIn K CRun = some kd6)
    (afStay_init : PySem.W.findIn K (.ref CStay) "__init__" = some (some (.ref fStay_init)))
    (ifStay_init : PySem.W.isFn K (.ref fStay_init) = true)
    (lfStay_init : K.lookup fStay_init = some ⟨oc7, od7, .func (PySem.W.ksFn "__init__" "Stay.__init__" (defArgs s_Stay_init) (defBody s_Stay_init) (defScope s_Stay_init) .none kV7 dc7 pm7 an7 (.ref ca7) ct7 cc7), sl7⟩)
    (cfStay_init : PySem.W.codeIn K (.ref ca7) "Stay.__init__" = true)
    (kfStay_init : PySem.W.keepIn K (.ref fStay_init) = true)
    {cl7 cy7 : Value} {cld7 cdd7 : Option Addr} {csl7 ccs7 : Array (Option Value)} {vs7 : Array Value} {fl7 : Str} {tf7 : Tok} {kd7 : ClassData}
    (efStay_init : K.lookup cc7 = some ⟨cl7, cld7, .cell (some (.ref CStay)), csl7⟩)
    (ofStay_init : K.lookup ca7 = some ⟨cy7, cdd7, .fields vs7, ccs7⟩)
    (vfStay_init : vs7[2]? = some (.str fl7 tf7))
    (pfStay_init : ((P.main.file : Str) == fl7) = true)
    (tfStay_init : (P.main.scope.names.lookup ("super" : Str)).isSome = false)
    (dfStay_init : PySem.W.clsIn K CStay = some kd7)
    (afpen : PySem.W.nsIn K mainGlobals "_law_pen" = some (some (.ref fpen)))
    (lfpen : K.lookup fpen = some ⟨oc8, od8, .func (PySem.W.fnOf "_law_pen" "_law_pen" (defArgs s_pen) (defBody s_pen) (defScope s_pen) .none kV8 dc8 pm8 an8 cd8 ct8), sl8⟩)
    (cfpen : PySem.W.codeIn K cd8 "_law_pen" = true)
    (kfpen : PySem.W.keepIn K (.ref fpen) = true)
    (afdraw : PySem.W.nsIn K mainGlobals "_law_draw" = some (some (.ref fdraw)))
    (lfdraw : K.lookup fdraw = some ⟨oc9, od9, .func (PySem.W.fnOf "_law_draw" "_law_draw" (defArgs s_draw) (defBody s_draw) (defScope s_draw) .none kV9 dc9 pm9 an9 cd9 ct9), sl9⟩)
    (cfdraw : PySem.W.codeIn K cd9 "_law_draw" = true)
    (kfdraw : PySem.W.keepIn K (.ref fdraw) = true)
    (afpick : PySem.W.nsIn K mainGlobals "_law_pick" = some (some (.ref fpick)))
    (lfpick : K.lookup fpick = some ⟨oc10, od10, .func (PySem.W.fnOf "_law_pick" "_law_pick" (defArgs s_pick) (defBody s_pick) (defScope s_pick) .none kV10 dc10 pm10 an10 cd10 ct10), sl10⟩)
    (cfpick : PySem.W.codeIn K cd10 "_law_pick" = true)
    (kfpick : PySem.W.keepIn K (.ref fpick) = true)
    (afheard : PySem.W.nsIn K mainGlobals "_law_heard" = some (some (.ref fheard)))
    (lfheard : K.lookup fheard = some ⟨oc11, od11, .func (PySem.W.fnOf "_law_heard" "_law_heard" (defArgs s_heard) (defBody s_heard) (defScope s_heard) .none kV11 dc11 pm11 an11 cd11 ct11), sl11⟩)
    (cfheard : PySem.W.codeIn K cd11 "_law_heard" = true)
    (kfheard : PySem.W.keepIn K (.ref fheard) = true)
    (afno_name : PySem.W.nsIn K mainGlobals "_law_no_name" = some (some (.ref fno_name)))
    (lfno_name : K.lookup fno_name = some ⟨oc12, od12, .func (PySem.W.fnOf "_law_no_name" "_law_no_name" (defArgs s_no_name) (defBody s_no_name) (defScope s_no_name) .none kV12 dc12 pm12 an12 cd12 ct12), sl12⟩)
    (cfno_name : PySem.W.codeIn K cd12 "_law_no_name" = true)
    (kfno_name : PySem.W.keepIn K (.ref fno_name) = true)
    (afno_number : PySem.W.nsIn K mainGlobals "_law_no_number" = some (some (.ref fno_number)))
    (lfno_number : K.lookup fno_number = some ⟨oc13, od13, .func (PySem.W.fnOf "_law_no_number" "_law_no_number" (defArgs s_no_number) (defBody s_no_number) (defScope s_no_number) .none kV13 dc13 pm13 an13 cd13 ct13), sl13⟩)
    (cfno_number : PySem.W.codeIn K cd13 "_law_no_number" = true)
    (kfno_number : PySem.W.keepIn K (.ref fno_number) = true)
    (afdue : PySem.W.nsIn K mainGlobals "_law_due" = some (some (.ref fdue)))
    (lfdue : K.lookup fdue = some ⟨oc14, od14, .func (PySem.W.fnOf "_law_due" "_law_due" (defArgs s_due) (defBody s_due) (defScope s_due) .none kV14 dc14 pm14 an14 cd14 ct14), sl14⟩)
    (cfdue : PySem.W.codeIn K cd14 "_law_due" = true)
    (kfdue : PySem.W.keepIn K (.ref fdue) = true)
    (afright : PySem.W.nsIn K mainGlobals "_law_right" = some (some (.ref fright)))
    (lfright : K.lookup fright = some ⟨oc15, od15, .func (PySem.W.fnOf "_law_right" "_law_right" (defArgs s_right) (defBody s_right) (defScope s_right) .none kV15 dc15 pm15 an15 (.ref lcright) ct15), sl15⟩)
    (cfright : PySem.W.codeIn K (.ref lcright) "_law_right" = true)
    (kfright : PySem.W.keepIn K (.ref fright) = true)
    {lyright : Value} {ldright : Option Addr} {lsright : Array (Option Value)} {lvright : Array Value}
    (lofright : K.lookup lcright = some ⟨lyright, ldright, .fields lvright, lsright⟩)
    (lifright : lvright[11]? = some (.ref lpright))
    (tbfright : PySem.W.CodeHd h lcright lpright ∧ h.get? lpright = some { cls := .none, data := .fields #[] })
    (nlfright : K.lookup lpright = none)
    (afedges_right : PySem.W.nsIn K mainGlobals "_law_edges_right" = some (some (.ref fedges_right)))
    (lfedges_right : K.lookup fedges_right = some ⟨oc16, od16, .func (PySem.W.fnOf "_law_edges_right" "_law_edges_right" (defArgs s_edges_right) (defBody s_edges_right) (defScope s_edges_right) .none kV16 dc16 pm16 an16 (.ref lcedges_right) ct16), sl16⟩)
    (cfedges_right : PySem.W.codeIn K (.ref lcedges_right) "_law_edges_right" = true)
    (kfedges_right : PySem.W.keepIn K (.ref fedges_right) = true)
    {lyedges_right : Value} {ldedges_right : Option Addr} {lsedges_right : Array (Option Value)} {lvedges_right : Array Value}
    (lofedges_right : K.lookup lcedges_right = some ⟨lyedges_right, ldedges_right, .fields lvedges_right, lsedges_right⟩)
    (lifedges_right : lvedges_right[11]? = some (.ref lpedges_right))
    (tbfedges_right : PySem.W.CodeHd h lcedges_right lpedges_right ∧ h.get? lpedges_right = some { cls := .none, data := .fields #[] })
    (nlfedges_right : K.lookup lpedges_right = none)
    (aflaw : PySem.W.nsIn K mainGlobals "law" = some (some (.ref flaw)))
    (lflaw : K.lookup flaw = some ⟨oc17, od17, .func (PySem.W.fnOf "law" "law" (defArgs s_law) (defBody s_law) (defScope s_law) .none kV17 dc17 pm17 an17 cd17 ct17), sl17⟩)
    (cflaw : PySem.W.codeIn K cd17 "law" = true)
    (kflaw : PySem.W.keepIn K (.ref flaw) = true)
    {nmCBadTrip qnCBadTrip : Str} {NCBadTrip : Addr} {bsCBadTrip bmCBadTrip : List Value} {snCBadTrip : List Str} {sbCBadTrip : List Value} {abCBadTrip : Bool} {coCBadTrip : Option Bool} {ddCBadTrip : Option Addr} {k0CBadTrip k1CBadTrip k2CBadTrip k3CBadTrip k5CBadTrip : Option Value}
    (x1CBadTrip : K.lookup CBadTrip = some (excClassObj nmCBadTrip qnCBadTrip CBadTrip NCBadTrip bsCBadTrip bmCBadTrip true snCBadTrip sbCBadTrip abCBadTrip coCBadTrip ddCBadTrip k0CBadTrip k1CBadTrip k2CBadTrip k3CBadTrip k5CBadTrip "ValueError.__new__"))
    (x2CBadTrip : PySem.HandSPX.refsVE bmCBadTrip = true)
    (x3CBadTrip : PySem.W.findIn K (.ref CBadTrip) "__setattr__" = some (some (.builtin "object.__setattr__")))
    (x4CBadTrip : PySem.W.subIn K (.ref CBadTrip) (.type "BaseException") = some true)
    (x5CBadTrip : PySem.W.typeIn K (.ref CBadTrip) = some (.type "type"))
    (x6CBadTrip : PySem.W.keepIn K (.ref CBadTrip) = true)
    (x7CBadTrip : PySem.W.mroIn K CBadTrip (.ref CBadTrip) = some true)
    (x8CBadTrip : PySem.W.ks_superIn K CBadTrip CBadTrip "__init__" = some (some (.builtin "ValueError.__init__")))
    (x9CBadTrip : PySem.W.subIn K (.ref CBadTrip) (.type "ValueError") = some true)
    (y1CBadTrip : PySem.W.findIn K (.ref CBadTrip) "__getattribute__" = some (some (.builtin "BaseException.__getattribute__")))
    (y2CBadTrip : PySem.W.findIn K (.ref CBadTrip) "__getattr__" = some none)
    (y3CBadTrip : PySem.W.hasDictIn K CBadTrip = true)
    (y4CBadTrip : PySem.W.findIn K (.ref CBadTrip) "__class__" = some (some (.builtin "object.__class__")))
    (y5CBadTrip : PySem.W.specialIn K (.builtin "object.__class__") "__get__" = some (some (.builtin "getset_descriptor.__get__")))
    (y6CBadTrip : PySem.W.takesIn K (.builtin "object.__class__") = some true)
    (y7CBadTrip : PySem.W.mroIn K CBadTrip (.type "object") = some true)
    (y8CBadTrip : PySem.W.typeIn K (.ref fBadTrip_init) = some (.type "function"))
    (pgCTrip : PySem.W.plainGet K CTrip Str.empty = true)
    (hdCTrip : PySem.W.hasDictIn K CTrip = true)
    (poCTrip : PySem.W.plainOver K CTrip = true)
    (saCTrip : PySem.W.findIn K (.ref CTrip) "__setattr__" = some (some (.builtin "object.__setattr__")))
    (mkCTrip : PySem.W.makesIn K CTrip = true)
    (kcCTrip : PySem.W.keepIn K (.ref CTrip) = true)
    (icCTrip : PySem.W.findIn K (.ref CTrip) "__class__" = some (some (.builtin "object.__class__")))
    (igCTrip : PySem.W.specialIn K (.builtin "object.__class__") "__get__" = some (some (.builtin "getset_descriptor.__get__")))
    (itCTrip : PySem.W.takesIn K (.builtin "object.__class__") = some true)
    (imCTrip : PySem.W.mroIn K CTrip (.type "object") = some true)
    (sfCTrip : PySem.W.selfFirst K CTrip = true)
    (pgCRun : PySem.W.plainGet K CRun Str.empty = true)
    (hdCRun : PySem.W.hasDictIn K CRun = true)
    (poCRun : PySem.W.plainOver K CRun = true)
    (saCRun : PySem.W.findIn K (.ref CRun) "__setattr__" = some (some (.builtin "object.__setattr__")))
    (mkCRun : PySem.W.makesIn K CRun = true)
    (kcCRun : PySem.W.keepIn K (.ref CRun) = true)
    (icCRun : PySem.W.findIn K (.ref CRun) "__class__" = some (some (.builtin "object.__class__")))
    (igCRun : PySem.W.specialIn K (.builtin "object.__class__") "__get__" = some (some (.builtin "getset_descriptor.__get__")))
    (itCRun : PySem.W.takesIn K (.builtin "object.__class__") = some true)
    (imCRun : PySem.W.mroIn K CRun (.type "object") = some true)
    (sfCRun : PySem.W.selfFirst K CRun = true)
    (pgCStay : PySem.W.plainGet K CStay Str.empty = true)
    (hdCStay : PySem.W.hasDictIn K CStay = true)
    (poCStay : PySem.W.plainOver K CStay = true)
    (saCStay : PySem.W.findIn K (.ref CStay) "__setattr__" = some (some (.builtin "object.__setattr__")))
    (mkCStay : PySem.W.makesIn K CStay = true)
    (kcCStay : PySem.W.keepIn K (.ref CStay) = true)
    (icCStay : PySem.W.findIn K (.ref CStay) "__class__" = some (some (.builtin "object.__class__")))
    (igCStay : PySem.W.specialIn K (.builtin "object.__class__") "__get__" = some (some (.builtin "getset_descriptor.__get__")))
    (itCStay : PySem.W.takesIn K (.builtin "object.__class__") = some true)
    (imCStay : PySem.W.mroIn K CStay (.type "object") = some true)
    (sfCStay : PySem.W.selfFirst K CStay = true)
    (nfBadTrippart : PySem.W.findIn K (.ref CBadTrip) "part" = some none)
    (so1Run : PySem.W.mroIn K CRun (.ref CRun) = some true)
    (so2Run : PySem.W.ks_superIn K CRun CRun "__init__" = some (some (.ref fTrip_init)))
    (so1Stay : PySem.W.mroIn K CStay (.ref CStay) = some true)
    (so2Stay : PySem.W.ks_superIn K CStay CStay "__init__" = some (some (.ref fTrip_init)))
    (fiTrip_init : PySem.W.fnIn K fTrip_init = true)
    (msx : PySem.W.nsIn K mainGlobals "super" = some none)
    (opx : PySem.W.nsIn K cStatics "thirdparty.any" = some none)
    (xne_right_edges_right : lpright ≠ lpedges_right)
    (naTripgoal : PySem.W.findIn K (.ref CTrip) "goal" = some none)
    (naTripleaves : PySem.W.findIn K (.ref CTrip) "leaves" = some none)
    (naTripname : PySem.W.findIn K (.ref CTrip) "name" = some none)
    (naTripstart : PySem.W.findIn K (.ref CTrip) "start" = some none)
    (naTriptakes : PySem.W.findIn K (.ref CTrip) "takes" = some none)
    {tkLETTERS : Tok}
    (gLETTERS : PySem.W.nsIn K mainGlobals "LETTERS" = some (some (.str "abcdefghijklmnopqrstuvwxyz" tkLETTERS)))
    {tkMOST_NUMBER : Tok}
    (gMOST_NUMBER : PySem.W.nsIn K mainGlobals "MOST_NUMBER" = some (some (.int 1000000000000 tkMOST_NUMBER)))
    (nValueError : PySem.W.nsIn K mainGlobals "ValueError" = some none)
    (nabs : PySem.W.nsIn K mainGlobals "abs" = some none)
    (nall : PySem.W.nsIn K mainGlobals "all" = some none)
    (nbool : PySem.W.nsIn K mainGlobals "bool" = some none)
    (nint : PySem.W.nsIn K mainGlobals "int" = some none)
    (nisinstance : PySem.W.nsIn K mainGlobals "isinstance" = some none)
    (nlen : PySem.W.nsIn K mainGlobals "len" = some none)
    (nlist : PySem.W.nsIn K mainGlobals "list" = some none)
    (nrange : PySem.W.nsIn K mainGlobals "range" = some none)
    (nstr : PySem.W.nsIn K mainGlobals "str" = some none)
    (xkx_bt : PySem.W.kitOne K (.ref CBadTrip) (.ref CBadTrip) = some true)
    (xkx_bi : PySem.W.kitOne K (.ref CBadTrip) (.ref CBadInput) = some true)
    (xkx_re : PySem.W.kitOne K (.ref CBadTrip) (.ref CRefused) = some false)
    (xkx_ve : PySem.W.kitOne K (.ref CBadTrip) (.type "ValueError") = some true)
    (xte_1 : PySem.W.subIn K (.ref CTurnError) (.type "BaseException") = some true)
    (xte_2 : PySem.W.hasDictIn K CTurnError = true)
    (xte_3 : PySem.W.typeIn K (.ref CTurnError) = some (.type "type"))
    (xte_4 : PySem.W.subIn K (.ref CBadTrip) (.ref CTurnError) = some true)
    (xnR_name : PySem.W.findIn K (.ref CRun) "name" = some none)
    (xnR_start : PySem.W.findIn K (.ref CRun) "start" = some none)
    (xnR_leaves : PySem.W.findIn K (.ref CRun) "leaves" = some none)
    (xnR_takes : PySem.W.findIn K (.ref CRun) "takes" = some none)
    (xnR_goal : PySem.W.findIn K (.ref CRun) "goal" = some none)
    (xnS_name : PySem.W.findIn K (.ref CStay) "name" = some none)
    (xnS_start : PySem.W.findIn K (.ref CStay) "start" = some none)
    (xnS_leaves : PySem.W.findIn K (.ref CStay) "leaves" = some none)
    (xnS_takes : PySem.W.findIn K (.ref CStay) "takes" = some none)
    (xnS_goal : PySem.W.findIn K (.ref CStay) "goal" = some none)
    : ∃ (fd : FuncData) (cs : List (Addr × Addr)) (sp : Sp), (∀ p ∈ cs, h.get? p.2 = some { cls := .none, data := .fields #[] }) ∧ (∀ p ∈ cs, K.lookup p.2 = none) ∧ (∀ p ∈ cs, PySem.W.CodeHd h p.1 p.2) ∧ (∀ (s : Shared) (u : Value), BindsTo s fd ⟨[u], []⟩ [("_law_script", u)]) ∧
        (∀ (H : Hp) (a : Addr) (ns : List Int), ns.length ≤ 63 → (∀ p ∈ cs, H p.2 = some (.tbl #[])) → SqL K H a (ns.map V.int) → sp [.ref a] H (fun v _ => v = .bl true) fun _ _ _ => False) ∧
        ∀ base : Heap, K.In base → base.Ns mainGlobals mg → (∀ p ∈ cs, LamX.TabB base mg p.1 p.2) → FnOk P w K mg base CX0 10 fa fd ["_law_script"] sp := by
  have e := hfa.symm.trans (PySem.W.mg_of X G aflaw)
  cases e
  have T : Txt P K mg ⟨CTurnError, CBadInput, CRefused, CBadTrip, CTrip, CRun, CStay, fis_integer, fis_between, fis_number, fis_name, fBadTrip_init, fTrip_init, fRun_init, fStay_init, fpen, fdraw, fpick, fheard, fno_name, fno_number, fdue, fright, fedges_right, fa, lcright, lpright, lcedges_right, lpedges_right⟩ ⟨PySem.W.fnOf "is_integer" "is_integer" (defArgs s_is_integer) (defBody s_is_integer) (defScope s_is_integer) .none kV0 dc0 pm0 an0 cd0 ct0, PySem.W.fnOf "is_between" "is_between" (defArgs s_is_between) (defBody s_is_between) (defScope s_is_between) .none kV1 dc1 pm1 an1 cd1 ct1, PySem.W.fnOf "is_number" "is_number" (defArgs s_is_number) (defBody s_is_number) (defScope s_is_number) .none kV2 dc2 pm2 an2 cd2 ct2, PySem.W.fnOf "is_name" "is_name" (defArgs s_is_name) (defBody s_is_name) (defScope s_is_name) .none kV3 dc3 pm3 an3 cd3 ct3, PySem.W.ksFn "__init__" "BadTrip.__init__" (defArgs s_BadTrip_init) (defBody s_BadTrip_init) (defScope s_BadTrip_init) .none kV4 dc4 pm4 an4 (.ref ca4) ct4 cc4, PySem.W.fnOf "__init__" "Trip.__init__" (defArgs s_Trip_init) (defBody s_Trip_init) (defScope s_Trip_init) .none kV5 dc5 pm5 an5 cd5 ct5, PySem.W.ksFn "__init__" "Run.__init__" (defArgs s_Run_init) (defBody s_Run_init) (defScope s_Run_init) .none kV6 dc6 pm6 an6 (.ref ca6) ct6 cc6, PySem.W.ksFn "__init__" "Stay.__init__" (defArgs s_Stay_init) (defBody s_Stay_init) (defScope s_Stay_init) .none kV7 dc7 pm7 an7 (.ref ca7) ct7 cc7, PySem.W.fnOf "_law_pen" "_law_pen" (defArgs s_pen) (defBody s_pen) (defScope s_pen) .none kV8 dc8 pm8 an8 cd8 ct8, PySem.W.fnOf "_law_draw" "_law_draw" (defArgs s_draw) (defBody s_draw) (defScope s_draw) .none kV9 dc9 pm9 an9 cd9 ct9, PySem.W.fnOf "_law_pick" "_law_pick" (defArgs s_pick) (defBody s_pick) (defScope s_pick) .none kV10 dc10 pm10 an10 cd10 ct10, PySem.W.fnOf "_law_heard" "_law_heard" (defArgs s_heard) (defBody s_heard) (defScope s_heard) .none kV11 dc11 pm11 an11 cd11 ct11, PySem.W.fnOf "_law_no_name" "_law_no_name" (defArgs s_no_name) (defBody s_no_name) (defScope s_no_name) .none kV12 dc12 pm12 an12 cd12 ct12, PySem.W.fnOf "_law_no_number" "_law_no_number" (defArgs s_no_number) (defBody s_no_number) (defScope s_no_number) .none kV13 dc13 pm13 an13 cd13 ct13, PySem.W.fnOf "_law_due" "_law_due" (defArgs s_due) (defBody s_due) (defScope s_due) .none kV14 dc14 pm14 an14 cd14 ct14, PySem.W.fnOf "_law_right" "_law_right" (defArgs s_right) (defBody s_right) (defScope s_right) .none kV15 dc15 pm15 an15 (.ref lcright) ct15, PySem.W.fnOf "_law_edges_right" "_law_edges_right" (defArgs s_edges_right) (defBody s_edges_right) (defScope s_edges_right) .none kV16 dc16 pm16 an16 (.ref lcedges_right) ct16, PySem.W.fnOf "law" "law" (defArgs s_law) (defBody s_law) (defScope s_law) .none kV17 dc17 pm17 an17 cd17 ct17⟩ := {
    m_is_integer := PySem.W.mg_of X G afis_integer,
    f_is_integer := fun_mk (st := s_is_integer) lfis_integer cfis_integer kfis_integer,
    b_is_integer := (fun_mk (st := s_is_integer) lfis_integer cfis_integer kfis_integer).binds (ps := ["value"]) fun _ _ _ _ _ _ us hl => match us, hl with | [_], _ => rfl,
    m_is_between := PySem.W.mg_of X G afis_between,
    f_is_between := fun_mk (st := s_is_between) lfis_between cfis_between kfis_between,
    b_is_between := (fun_mk (st := s_is_between) lfis_between cfis_between kfis_between).binds (ps := ["value", "low", "high"]) fun _ _ _ _ _ _ us hl => match us, hl with | [_, _, _], _ => rfl,
    m_is_number := PySem.W.mg_of X G afis_number,
    f_is_number := fun_mk (st := s_is_number) lfis_number cfis_number kfis_number,
    b_is_number := (fun_mk (st := s_is_number) lfis_number cfis_number kfis_number).binds (ps := ["value"]) fun _ _ _ _ _ _ us hl => match us, hl with | [_], _ => rfl,
    m_is_name := PySem.W.mg_of X G afis_name,
    f_is_name := fun_mk (st := s_is_name) lfis_name cfis_name kfis_name,
    b_is_name := (fun_mk (st := s_is_name) lfis_name cfis_name kfis_name).binds (ps := ["value"]) fun _ _ _ _ _ _ us hl => match us, hl with | [_], _ => rfl,
    f_BadTrip_init := ⟨⟨_, _, _, _, _, _, _, _, _, _, rfl, lfBadTrip_init, cfBadTrip_init, ⟨_, _, _, efBadTrip_init⟩, _, _, _, _, _, _, ofBadTrip_init, vfBadTrip_init, pfBadTrip_init⟩, tfBadTrip_init, ⟨_, dfBadTrip_init⟩, kfBadTrip_init⟩,
    b_BadTrip_init := FunS.binds (D := CBadTrip) (P := P) (st := s_BadTrip_init) ⟨⟨_, _, _, _, _, _, _, _, _, _, rfl, lfBadTrip_init, cfBadTrip_init, ⟨_, _, _, efBadTrip_init⟩, _, _, _, _, _, _, ofBadTrip_init, vfBadTrip_init, pfBadTrip_init⟩, tfBadTrip_init, ⟨_, dfBadTrip_init⟩, kfBadTrip_init⟩ (ps := ["self", "part"]) fun _ _ _ _ _ _ _ us hl => match us, hl with | [_, _], _ => rfl,
    f_Trip_init := fun_mk (st := s_Trip_init) lfTrip_init cfTrip_init kfTrip_init,
    b_Trip_init := (fun_mk (st := s_Trip_init) lfTrip_init cfTrip_init kfTrip_init).binds (ps := ["self", "name", "start", "leaves", "takes", "goal"]) fun _ _ _ _ _ _ us hl => match us, hl with | [_, _, _, _, _, _], _ => rfl,
    f_Run_init := ⟨⟨_, _, _, _, _, _, _, _, _, _, rfl, lfRun_init, cfRun_init, ⟨_, _, _, efRun_init⟩, _, _, _, _, _, _, ofRun_init, vfRun_init, pfRun_init⟩, tfRun_init, ⟨_, dfRun_init⟩, kfRun_init⟩,
    b_Run_init := FunS.binds (D := CRun) (P := P) (st := s_Run_init) ⟨⟨_, _, _, _, _, _, _, _, _, _, rfl, lfRun_init, cfRun_init, ⟨_, _, _, efRun_init⟩, _, _, _, _, _, _, ofRun_init, vfRun_init, pfRun_init⟩, tfRun_init, ⟨_, dfRun_init⟩, kfRun_init⟩ (ps := ["self", "name", "start", "leaves", "takes", "goal"]) fun _ _ _ _ _ _ _ us hl => match us, hl with | [_, _, _, _, _, _], _ => rfl,
    f_Stay_init := ⟨⟨_, _, _, _, _, _, _, _, _, _, rfl, lfStay_init, cfStay_init, ⟨_, _, _, efStay_init⟩, _, _, _, _, _, _, ofStay_init, vfStay_init, pfStay_init⟩, tfStay_init, ⟨_, dfStay_init⟩, kfStay_init⟩,
    b_Stay_init := FunS.binds (D := CStay) (P := P) (st := s_Stay_init) ⟨⟨_, _, _, _, _, _, _, _, _, _, rfl, lfStay_init, cfStay_init, ⟨_, _, _, efStay_init⟩, _, _, _, _, _, _, ofStay_init, vfStay_init, pfStay_init⟩, tfStay_init, ⟨_, dfStay_init⟩, kfStay_init⟩ (ps := ["self", "name", "place", "leaves", "takes"]) fun _ _ _ _ _ _ _ us hl => match us, hl with | [_, _, _, _, _], _ => rfl,
    m_pen := PySem.W.mg_of X G afpen,
    f_pen := fun_mk (st := s_pen) lfpen cfpen kfpen,
    b_pen := (fun_mk (st := s_pen) lfpen cfpen kfpen).binds (ps := ["_law_script"]) fun _ _ _ _ _ _ us hl => match us, hl with | [_], _ => rfl,
    m_draw := PySem.W.mg_of X G afdraw,
    f_draw := fun_mk (st := s_draw) lfdraw cfdraw kfdraw,
    b_draw := (fun_mk (st := s_draw) lfdraw cfdraw kfdraw).binds (ps := ["_law_pen_here", "_law_many"]) fun _ _ _ _ _ _ us hl => match us, hl with | [_, _], _ => rfl,
    m_pick := PySem.W.mg_of X G afpick,
    f_pick := fun_mk (st := s_pick) lfpick cfpick kfpick,
    b_pick := (fun_mk (st := s_pick) lfpick cfpick kfpick).binds (ps := ["_law_pen_here", "_law_some"]) fun _ _ _ _ _ _ us hl => match us, hl with | [_, _], _ => rfl,
    m_heard := PySem.W.mg_of X G afheard,
    f_heard := fun_mk (st := s_heard) lfheard cfheard kfheard,
    b_heard := (fun_mk (st := s_heard) lfheard cfheard kfheard).binds (ps := ["_law_ask"]) fun _ _ _ _ _ _ us hl => match us, hl with | [_], _ => rfl,
    m_no_name := PySem.W.mg_of X G afno_name,
    f_no_name := fun_mk (st := s_no_name) lfno_name cfno_name kfno_name,
    b_no_name := (fun_mk (st := s_no_name) lfno_name cfno_name kfno_name).binds (ps := ["_law_pen_here"]) fun _ _ _ _ _ _ us hl => match us, hl with | [_], _ => rfl,
    m_no_number := PySem.W.mg_of X G afno_number,
    f_no_number := fun_mk (st := s_no_number) lfno_number cfno_number kfno_number,
    b_no_number := (fun_mk (st := s_no_number) lfno_number cfno_number kfno_number).binds (ps := ["_law_pen_here", "_law_few"]) fun _ _ _ _ _ _ us hl => match us, hl with | [_, _], _ => rfl,
    m_due := PySem.W.mg_of X G afdue,
    f_due := fun_mk (st := s_due) lfdue cfdue kfdue,
    b_due := (fun_mk (st := s_due) lfdue cfdue kfdue).binds (ps := ["_law_wrong"]) fun _ _ _ _ _ _ us hl => match us, hl with | [_], _ => rfl,
    m_right := PySem.W.mg_of X G afright,
    f_right := ⟨⟨_, _, _, _, _, _, _, _, rfl, lfright, cfright⟩, kfright⟩,
    b_right := (fun_mk (st := s_right) lfright cfright kfright).binds (ps := ["_law_pen_here"]) fun _ _ _ _ _ _ us hl => match us, hl with | [_], _ => rfl,
    m_edges_right := PySem.W.mg_of X G afedges_right,
    f_edges_right := ⟨⟨_, _, _, _, _, _, _, _, rfl, lfedges_right, cfedges_right⟩, kfedges_right⟩,
    b_edges_right := (fun_mk (st := s_edges_right) lfedges_right cfedges_right kfedges_right).binds (ps := []) fun _ _ _ _ _ _ us hl => match us, hl with | [], _ => rfl,
    m_law := PySem.W.mg_of X G aflaw,
    f_law := fun_mk (st := s_law) lflaw cflaw kflaw,
    b_law := (fun_mk (st := s_law) lflaw cflaw kflaw).binds (ps := ["_law_script"]) fun _ _ _ _ _ _ us hl => match us, hl with | [_], _ => rfl,
    m_TurnError := PySem.W.mg_of X G aCTurnError,
    m_BadInput := PySem.W.mg_of X G aCBadInput,
    m_Refused := PySem.W.mg_of X G aCRefused,
    m_BadTrip := PySem.W.mg_of X G aCBadTrip,
    m_Trip := PySem.W.mg_of X G aCTrip,
    cl_Trip := ⟨pgCTrip, hdCTrip, poCTrip, saCTrip⟩,
    mk_Trip := ⟨mkCTrip, afTrip_init, ifTrip_init, kcCTrip⟩,
    m_Run := PySem.W.mg_of X G aCRun,
    cl_Run := ⟨pgCRun, hdCRun, poCRun, saCRun⟩,
    mk_Run := ⟨mkCRun, afRun_init, ifRun_init, kcCRun⟩,
    m_Stay := PySem.W.mg_of X G aCStay,
    cl_Stay := ⟨pgCStay, hdCStay, poCStay, saCStay⟩,
    mk_Stay := ⟨mkCStay, afStay_init, ifStay_init, kcCStay⟩,
    na_Trip_goal := naTripgoal,
    na_Trip_leaves := naTripleaves,
    na_Trip_name := naTripname,
    na_Trip_start := naTripstart,
    na_Trip_takes := naTriptakes,
    is_Trip := ⟨⟨pgCTrip, hdCTrip, poCTrip, saCTrip⟩, icCTrip, igCTrip, itCTrip, imCTrip⟩,
    is_Run := ⟨⟨pgCRun, hdCRun, poCRun, saCRun⟩, icCRun, igCRun, itCRun, imCRun⟩,
    is_Stay := ⟨⟨pgCStay, hdCStay, poCStay, saCStay⟩, icCStay, igCStay, itCStay, imCStay⟩,
    er_BadTrip := ⟨⟨⟨⟨_, _, _, _, _, _, _, _, _, _, _, _, _, _, _, x1CBadTrip, x2CBadTrip⟩, x3CBadTrip, x4CBadTrip, x5CBadTrip, x6CBadTrip⟩, x7CBadTrip, x8CBadTrip, x9CBadTrip⟩, ⟨y1CBadTrip, y2CBadTrip, x4CBadTrip, y3CBadTrip⟩, ⟨y1CBadTrip, y2CBadTrip, x4CBadTrip, y3CBadTrip, y4CBadTrip, y5CBadTrip, y6CBadTrip, y7CBadTrip⟩, afBadTrip_init, y8CBadTrip⟩,
    nf_BadTrip_part := nfBadTrippart,
    so_Run := ⟨so1Run, so2Run⟩,
    so_Stay := ⟨so1Stay, so2Stay⟩,
    fi_Trip_init := fiTrip_init,
    ff_Trip_init := ifTrip_init,
    ms := PySem.W.mg_none_of X G msx,
    op := opx,
    ne_right_edges_right := xne_right_edges_right,
    g_LETTERS := ⟨_, PySem.W.mg_of X G gLETTERS⟩,
    g_MOST_NUMBER := ⟨_, PySem.W.mg_of X G gMOST_NUMBER⟩,
    n_ValueError := PySem.W.mg_none_of X G nValueError,
    n_abs := PySem.W.mg_none_of X G nabs,
    n_all := PySem.W.mg_none_of X G nall,
    n_bool := PySem.W.mg_none_of X G nbool,
    n_int := PySem.W.mg_none_of X G nint,
    n_isinstance := PySem.W.mg_none_of X G nisinstance,
    n_len := PySem.W.mg_none_of X G nlen,
    n_list := PySem.W.mg_none_of X G nlist,
    n_range := PySem.W.mg_none_of X G nrange,
    n_str := PySem.W.mg_none_of X G nstr,
    kx_bt := xkx_bt,
    kx_bi := xkx_bi,
    kx_re := xkx_re,
    kx_ve := xkx_ve,
    te_1 := xte_1,
    te_2 := xte_2,
    te_3 := xte_3,
    te_4 := xte_4,
    nR_name := xnR_name,
    nR_start := xnR_start,
    nR_leaves := xnR_leaves,
    nR_takes := xnR_takes,
    nR_goal := xnR_goal,
    nS_name := xnS_name,
    nS_start := xnS_start,
    nS_leaves := xnS_leaves,
    nS_takes := xnS_takes,
    nS_goal := xnS_goal }
  refine ⟨PySem.W.fnOf "law" "law" (defArgs s_law) (defBody s_law) (defScope s_law) .none kV17 dc17 pm17 an17 cd17 ct17, [(lcright, lpright), (lcedges_right, lpedges_right)], spLaw K ⟨CTurnError, CBadInput, CRefused, CBadTrip, CTrip, CRun, CStay, fis_integer, fis_between, fis_number, fis_name, fBadTrip_init, fTrip_init, fRun_init, fStay_init, fpen, fdraw, fpick, fheard, fno_name, fno_number, fdue, fright, fedges_right, fa, lcright, lpright, lcedges_right, lpedges_right⟩, (by
    intro p hp
    simp only [List.mem_cons, List.not_mem_nil, or_false] at hp
    rcases hp with rfl | rfl
    · exact tbfright.2
    · exact tbfedges_right.2), (by
    intro p hp
    simp only [List.mem_cons, List.not_mem_nil, or_false] at hp
    rcases hp with rfl | rfl
    · exact nlfright
    · exact nlfedges_right), (by
    intro p hp
    simp only [List.mem_cons, List.not_mem_nil, or_false] at hp
    rcases hp with rfl | rfl
    · exact tbfright.1
    · exact tbfedges_right.1), fun s v => .of_eq rfl, fun H a ns hl hT hS => ⟨a, ns, rfl, hS, hl, ⟨hT (lcright, lpright) (by simp), hT (lcedges_right, lpedges_right) (by simp)⟩, fun _ => rfl⟩, fun base _ _ hTB => ok_law T ⟨hTB (lcright, lpright) (by simp), hTB (lcedges_right, lpedges_right) (by simp)⟩⟩
end Ol
open PySem PySem.W PyProof.Rows in
set_option maxRecDepth 100000 in
set_option maxHeartbeats 0 in
theorem PySem.Challenge.cw_onelongturn_k13_trips_refused_holds : PySem.Challenge.rw_onelongturn_k13_trips_refused.Holds := by
  w_on; o_law; k_head; (case hw => w_witness2)
  k_fill
  refine Ol.walk_ofTT (l := PySem.Challenge.rw_onelongturn_k13_trips_refused) (n := 63) (k := 10) (x := "_law_script") rfl (by decide) rfl ⟨rfl, by decide, by decide⟩ (fun w h Y => PySem.W.km_in_of Y) ?F
  case F =>
    intro w mg fa h Y KX G hmg
    refine' Ol.all_mk KX G hmg ?aCTurnError ?aCBadInput ?aCRefused ?aCBadTrip ?aCTrip ?aCRun ?aCStay ?afis_integer ?lfis_integer ?cfis_integer ?kfis_integer ?afis_between ?lfis_between ?cfis_between ?kfis_between ?afis_number ?lfis_number ?cfis_number ?kfis_number ?afis_name ?lfis_name ?cfis_name ?kfis_name ?afBadTrip_init ?ifBadTrip_init ?lfBadTrip_init ?cfBadTrip_init ?kfBadTrip_init ?efBadTrip_init ?ofBadTrip_init ?vfBadTrip_init ?pfBadTrip_init ?tfBadTrip_init ?dfBadTrip_init ?afTrip_init ?ifTrip_init ?lfTrip_init ?cfTrip_init ?kfTrip_init ?afRun_init ?ifRun_init ?lfRun_init ?cfRun_init ?kfRun_init ?efRun_init ?ofRun_init ?vfRun_init ?pfRun_init ?tfRun_init ?dfRun_init ?afStay_init ?ifStay_init ?lfStay_init ?cfStay_init ?kfStay_init ?efStay_init ?ofStay_init ?vfStay_init ?pfStay_init ?tfStay_init ?dfStay_init ?afpen ?lfpen ?cfpen ?kfpen ?afdraw ?lfdraw ?cfdraw ?kfdraw ?afpick ?lfpick ?cfpick ?kfpick ?afheard ?lfheard ?cfheard ?kfheard ?afno_name ?lfno_name ?cfno_name ?kfno_name ?afno_number ?lfno_number ?cfno_number ?kfno_number ?afdue ?lfdue ?cfdue ?kfdue ?afright ?lfright ?cfright ?kfright ?lofright ?lifright ?tbfright ?nlfright ?afedges_right ?lfedges_right ?cfedges_right ?kfedges_right ?lofedges_right ?lifedges_right ?tbfedges_right ?nlfedges_right ?aflaw ?lflaw ?cflaw ?kflaw ?x1CBadTrip ?x2CBadTrip ?x3CBadTrip ?x4CBadTrip ?x5CBadTrip ?x6CBadTrip ?x7CBadTrip ?x8CBadTrip ?x9CBadTrip ?y1CBadTrip ?y2CBadTrip ?y3CBadTrip ?y4CBadTrip ?y5CBadTrip ?y6CBadTrip ?y7CBadTrip ?y8CBadTrip ?pgCTrip ?hdCTrip ?poCTrip ?saCTrip ?mkCTrip ?kcCTrip ?icCTrip ?igCTrip ?itCTrip ?imCTrip ?sfCTrip ?pgCRun ?hdCRun ?poCRun ?saCRun ?mkCRun ?kcCRun ?icCRun ?igCRun ?itCRun ?imCRun ?sfCRun ?pgCStay ?hdCStay ?poCStay ?saCStay ?mkCStay ?kcCStay ?icCStay ?igCStay ?itCStay ?imCStay ?sfCStay ?nfBadTrippart ?so1Run ?so2Run ?so1Stay ?so2Stay ?fiTrip_init ?msx ?opx ?xne_right_edges_right ?naTripgoal ?naTripleaves ?naTripname ?naTripstart ?naTriptakes ?gLETTERS ?gMOST_NUMBER ?nValueError ?nabs ?nall ?nbool ?nint ?nisinstance ?nlen ?nlist ?nrange ?nstr ?xkx_bt ?xkx_bi ?xkx_re ?xkx_ve ?xte_1 ?xte_2 ?xte_3 ?xte_4 ?xnR_name ?xnR_start ?xnR_leaves ?xnR_takes ?xnR_goal ?xnS_name ?xnS_start ?xnS_leaves ?xnS_takes ?xnS_goal
    (case aCTurnError => k_is)
    (case aCBadInput => k_is)
    (case aCRefused => k_is)
    (case aCBadTrip => k_is)
    (case aCTrip => k_is)
    (case aCRun => k_is)
    (case aCStay => k_is)
    (case afis_integer => k_is)
    (case lfis_integer => k_is)
    (case cfis_integer => k_is)
    (case kfis_integer => k_is)
    (case afis_between => k_is)
    (case lfis_between => k_is)
    (case cfis_between => k_is)
    (case kfis_between => k_is)
    (case afis_number => k_is)
    (case lfis_number => k_is)
    (case cfis_number => k_is)
    (case kfis_number => k_is)
    (case afis_name => k_is)
    (case lfis_name => k_is)
    (case cfis_name => k_is)
    (case kfis_name => k_is)
    (case afBadTrip_init => k_is)
    (case ifBadTrip_init => k_is)
    (case lfBadTrip_init => k_is)
    (case cfBadTrip_init => k_is)
    (case kfBadTrip_init => k_is)
    (case efBadTrip_init => k_is)
    (case ofBadTrip_init => k_is)
    (case vfBadTrip_init => exact rfl)
    (case pfBadTrip_init => first | exact rfl | decide +kernel)
    (case tfBadTrip_init => first | exact rfl | decide +kernel)
    (case dfBadTrip_init => first | k_is | exact rfl)
    (case afTrip_init => k_is)
    (case ifTrip_init => k_is)
    (case lfTrip_init => k_is)
    (case cfTrip_init => k_is)
    (case kfTrip_init => k_is)
    (case afRun_init => k_is)
    (case ifRun_init => k_is)
    (case lfRun_init => k_is)
    (case cfRun_init => k_is)
    (case kfRun_init => k_is)
    (case efRun_init => k_is)
    (case ofRun_init => k_is)
    (case vfRun_init => exact rfl)
    (case pfRun_init => first | exact rfl | decide +kernel)
    (case tfRun_init => first | exact rfl | decide +kernel)
    (case dfRun_init => first | k_is | exact rfl)
    (case afStay_init => k_is)
    (case ifStay_init => k_is)
    (case lfStay_init => k_is)
    (case cfStay_init => k_is)
    (case kfStay_init => k_is)
    (case efStay_init => k_is)
    (case ofStay_init => k_is)
    (case vfStay_init => exact rfl)
    (case pfStay_init => first | exact rfl | decide +kernel)
    (case tfStay_init => first | exact rfl | decide +kernel)
    (case dfStay_init => first | k_is | exact rfl)
    (case afpen => k_is)
    (case lfpen => k_is)
    (case cfpen => k_is)
    (case kfpen => k_is)
    (case afdraw => k_is)
    (case lfdraw => k_is)
    (case cfdraw => k_is)
    (case kfdraw => k_is)
    (case afpick => k_is)
    (case lfpick => k_is)
    (case cfpick => k_is)
    (case kfpick => k_is)
    (case afheard => k_is)
    (case lfheard => k_is)
    (case cfheard => k_is)
    (case kfheard => k_is)
    (case afno_name => k_is)
    (case lfno_name => k_is)
    (case cfno_name => k_is)
    (case kfno_name => k_is)
    (case afno_number => k_is)
    (case lfno_number => k_is)
    (case cfno_number => k_is)
    (case kfno_number => k_is)
    (case afdue => k_is)
    (case lfdue => k_is)
    (case cfdue => k_is)
    (case kfdue => k_is)
    (case afright => k_is)
    (case lfright => k_is)
    (case cfright => k_is)
    (case kfright => k_is)
    (case lofright => k_is)
    (case lifright => exact rfl)
    (case tbfright => exact ⟨PySem.W.codeHd_of_K KX (by kernel_rfl), PySem.W.km_tabs_of Y _ (by first | k_mem | decide | simp)⟩)
    (case nlfright => first | k_is | kernel_rfl | rfl)
    (case afedges_right => k_is)
    (case lfedges_right => k_is)
    (case cfedges_right => k_is)
    (case kfedges_right => k_is)
    (case lofedges_right => k_is)
    (case lifedges_right => exact rfl)
    (case tbfedges_right => exact ⟨PySem.W.codeHd_of_K KX (by kernel_rfl), PySem.W.km_tabs_of Y _ (by first | k_mem | decide | simp)⟩)
    (case nlfedges_right => first | k_is | kernel_rfl | rfl)
    (case aflaw => k_is)
    (case lflaw => k_is)
    (case cflaw => k_is)
    (case kflaw => k_is)
    (case x1CBadTrip => k_is)
    (case x2CBadTrip => decide +kernel)
    (case x3CBadTrip => k_is)
    (case x4CBadTrip => k_is)
    (case x5CBadTrip => k_is)
    (case x6CBadTrip => k_is)
    (case x7CBadTrip => k_is)
    (case x8CBadTrip => ks_is)
    (case x9CBadTrip => k_is)
    (case y1CBadTrip => k_is)
    (case y2CBadTrip => k_is)
    (case y3CBadTrip => k_is)
    (case y4CBadTrip => k_is)
    (case y5CBadTrip => k_is)
    (case y6CBadTrip => k_is)
    (case y7CBadTrip => k_is)
    (case y8CBadTrip => k_is)
    (case pgCTrip => k_is)
    (case hdCTrip => k_is)
    (case poCTrip => k_is)
    (case saCTrip => k_is)
    (case mkCTrip => k_is)
    (case kcCTrip => k_is)
    (case icCTrip => k_is)
    (case igCTrip => k_is)
    (case itCTrip => k_is)
    (case imCTrip => k_is)
    (case sfCTrip => k_is)
    (case pgCRun => k_is)
    (case hdCRun => k_is)
    (case poCRun => k_is)
    (case saCRun => k_is)
    (case mkCRun => k_is)
    (case kcCRun => k_is)
    (case icCRun => k_is)
    (case igCRun => k_is)
    (case itCRun => k_is)
    (case imCRun => k_is)
    (case sfCRun => k_is)
    (case pgCStay => k_is)
    (case hdCStay => k_is)
    (case poCStay => k_is)
    (case saCStay => k_is)
    (case mkCStay => k_is)
    (case kcCStay => k_is)
    (case icCStay => k_is)
    (case igCStay => k_is)
    (case itCStay => k_is)
    (case imCStay => k_is)
    (case sfCStay => k_is)
    (case nfBadTrippart => k_is)
    (case so1Run => k_is)
    (case so2Run => ks_is)
    (case so1Stay => k_is)
    (case so2Stay => ks_is)
    (case fiTrip_init => k_is)
    (case msx => k_is)
    (case opx => k_is)
    (case xne_right_edges_right => decide)
    (case naTripgoal => k_is)
    (case naTripleaves => k_is)
    (case naTripname => k_is)
    (case naTripstart => k_is)
    (case naTriptakes => k_is)
    (case gLETTERS => k_is)
    (case gMOST_NUMBER => k_is)
    (case nValueError => k_is)
    (case nabs => k_is)
    (case nall => k_is)
    (case nbool => k_is)
    (case nint => k_is)
    (case nisinstance => k_is)
    (case nlen => k_is)
    (case nlist => k_is)
    (case nrange => k_is)
    (case nstr => k_is)
    (case xkx_bt => kit_is)
    (case xkx_bi => kit_is)
    (case xkx_re => kit_is)
    (case xkx_ve => kit_is)
    (case xte_1 => k_is)
    (case xte_2 => k_is)
    (case xte_3 => k_is)
    (case xte_4 => k_is)
    (case xnR_name => k_is)
    (case xnR_start => k_is)
    (case xnR_leaves => k_is)
    (case xnR_takes => k_is)
    (case xnR_goal => k_is)
    (case xnS_name => k_is)
    (case xnS_start => k_is)
    (case xnS_leaves => k_is)
    (case xnS_takes => k_is)
    (case xnS_goal => k_is)
#print axioms PySem.Challenge.cw_onelongturn_k13_trips_refused_holds


import PyProof.Rows.All
import Wide.All
import OpenK.AllK
import Wide.FinOn
import HandS.ForMost
import HandS.Wide
import KE.KOpsOwn
import HandS.IsInst
import HandS.Style
import HandS.Flow
import HandS.TupLe
import HandS.Evl
import PyProof.ReprRoads
import HandS.MakeKwOnly
import HandS.ClsMeth
import KE.KCallOwn
import PyProof.EqAt
import HandS.ExcInit
import HandS.ExcSuper
import KE.KExcSuper
import KE.KSuper
import HandS.ExcField
import HandS.ExcIs
import HandS.ExcOwn
import HandS.Lambda
import KE.KExcIs
import HandS.EndTab
import HandS.Walk
import HandS.FStr
import HandS.WordsExc
import HandS.NoneIn
import HandS.TupAny
import PySem.Challenge.RW_onelongturn_k12_trips_made
set_option Elab.async false
set_option linter.all false
set_option maxRecDepth 100000
set_option maxHeartbeats 4000000
namespace Ol
open PySem PySem.W PySem.Calls PyProof.Rows L2
section
variable {prog : Program} {w : World} {M : Model} {A : Around} {E : Value → Shared → Prop} {s : Shared} {K : Frag} {x C L f : Addr} {ox : Obj} {od : Option Obj} {nm T : String}

/-- an int's own method lets an instance be -/
def Lets (id : String) : Prop := ∀ (prog : Program) (w : World) (A : Around) (E : Value → Shared → Prop) (s : Shared) (x C dx : Addr) (i : Int) (t : Tok) (Q : Value → Shared → Prop),
  s.heap.get? x = some (instObj C dx) → Q .notImplemented s → wpAny (model prog w) A (call (.builtin id) [.int i t, .ref x]) Q E s
theorem lets_mod : Lets "int.__mod__" := by
  intro prog w A E s x C dx i t Q hx h
  refine wpAny_call_entry F.slot_int_mod (typeIs_int s i t) F.entry_int_mod ?_ (F.args_int_mod_2 _ _)
  obtain ⟨hp, g, d, tk, os⟩ := s
  unfold Builtin.«int.__mod__»
  wp_walk
  exact ⟨_, rfl, h⟩
theorem lets_fdiv : Lets "int.__floordiv__" := by
  intro prog w A E s x C dx i t Q hx h
  refine wpAny_call_entry F.slot_int_floordiv (typeIs_int s i t) F.entry_int_floordiv ?_ (F.args_int_floordiv_2 _ _)
  obtain ⟨hp, g, d, tk, os⟩ := s
  unfold Builtin.«int.__floordiv__»
  wp_walk
  exact ⟨_, rfl, h⟩
theorem lets_mul : Lets "int.__mul__" := by
  intro prog w A E s x C dx i t Q hx h
  refine wpAny_call_entry F.slot_int_mul (typeIs_int s i t) F.entry_int_mul ?_ (F.args_int_mul_2 _ _)
  obtain ⟨hp, g, d, tk, os⟩ := s
  unfold Builtin.«int.__mul__»
  wp_walk
  exact ⟨_, rfl, h⟩
theorem lets_add : Lets "int.__add__" := by
  intro prog w A E s x C dx i t Q hx h
  refine wpAny_call_entry F.slot_int_add (typeIs_int s i t) F.entry_int_add ?_ (F.args_int_add_2 _ _)
  obtain ⟨hp, g, d, tk, os⟩ := s
  unfold Builtin.«int.__add__»
  wp_walk
  exact ⟨_, rfl, h⟩

theorem fills_R {h : Heap} {cd : ClassData} {rest : List Value} {fo : Option Value} (X : K.In h) (hc : clsIn K C = some cd) (hm : cd.mro = .ref C :: rest)
    (hs : findIn K (.ref C) (PySem.dunder nm) = some fo) (hp : fo = none ∨ ∃ g : Addr, fo = some (.ref g)) (hr : findIn K (.ref C) (dunderR nm) = some (some (.ref f))) : Looks M h (fillsNumberSlot (.ref C) nm) true := by
  rcases hp with rfl | ⟨g, rfl⟩
  · intro A Q E s k q
    unfold fillsNumberSlot
    refine wpAny_bind ((looks_clsIn X hc).andThen (f := fun cd => pure cd.mro) .now A _ E s k ?_)
    rw [hm, List.anyM_cons]
    refine wpAny_bind ?_
    show wpAny M A (List.anyM _ [PySem.dunder nm, dunderR nm]) _ _ _
    rw [List.anyM_cons]
    refine wpAny_bind (wpAny_bind (looks_findIn X hs A _ E s k ?_))
    dsimp only
    refine wpAny_pure ?_
    rw [if_neg (show ¬ (false = true) from Bool.false_ne_true), List.anyM_cons]
    refine wpAny_bind (wpAny_bind (looks_findIn X hr A _ E s k ?_))
    dsimp only
    rw [if_pos (show (!ownNameWrapper (.ref f) (PySem.dunderR nm)) = true from rfl)]
    refine wpAny_pure ?_
    rw [if_pos rfl]
    refine wpAny_pure ?_
    rw [if_pos rfl]
    exact wpAny_pure q
  · exact fills_K X hc hm hs

theorem refl_int {op : Operator} {i : Int} {t : Tok} {id : String} {dx : Addr} {fo : Option Value} {Q : Value → Shared → Prop} (X : K.In s.heap) (I : InstAt s.heap x ox C od) (hx : s.heap.get? x = some (instObj C dx)) (hc : selfFirst K C = true)
    (fl : fillsNumberSlot (.type "int") op.info.2 = pure true) (sl : Slot "int" (PySem.dunder op.info.2) id) (lt : Lets id)
    (hs : findIn K (.ref C) (PySem.dunder op.info.2) = some fo) (hp : fo = none ∨ ∃ g : Addr, fo = some (.ref g)) (hr : findIn K (.ref C) (dunderR op.info.2) = some (some (.ref f))) (hf : isFn K (.ref f) = true) (hsub : subIn K (.ref C) (.type "int") = some false)
    (h : wpAny (model prog w) A (call (.ref f) [.ref x, .int i t]) (W.CmpBack Q) E s) : wpAny (model prog w) A (binaryOp op (.int i t) (.ref x)) Q E s := by
  obtain ⟨cd, rest, hcd, hm⟩ := ksp_first hc
  rcases hi : op.info with ⟨sym, nm'⟩
  rw [hi] at hs hr fl sl
  dsimp only at hs hr fl sl
  have one := ksp_try X I hr hf h
  have two : ∀ Q' : Option Value → Shared → Prop, Q' none s → wpAny (model prog w) A (tryMethod (.int i t) (PySem.dunder nm') (.ref x)) Q' E s := fun Q' q =>
    wpAny_tryMethod_declines (typeIs_int s i t) sl (lt _ _ _ _ _ _ _ _ _ _ _ hx ⟨rfl, q⟩)
  obtain ⟨hh, g, d, tt, os⟩ := s
  have L1 : Looks (model prog w) hh (typeOf (.int i t)) (.type "int") := Looks.of_pure rfl
  have L2 : Looks (model prog w) hh (typeOf (.ref x)) (.ref C) := I.type
  have L3 : Looks (model prog w) hh (fillsNumberSlot (.type "int") nm') true := Looks.of_pure fl
  have L4 : Looks (model prog w) hh (fillsNumberSlot (.ref C) nm') true := fills_R X hcd hm hs hp hr
  have L5 : Looks (model prog w) hh (isSubtype (.ref C) (.type "int")) false := looks_subIn X hsub
  have L7 : Looks (model prog w) hh (numberSlotInPython (.type "int") nm') false := Looks.of_pure rfl
  have hne : (Value.type "int" == Value.ref C) = false := Bool.eq_false_iff.mpr fun q => by cases beq_iff_eq.mp q
  simp only [binaryOp, hi]
  refine wpAny_holding (wpAny_bind ?_)
  unfold binaryOp1
  refine wpAny_bind (L1.at (wpAny_bind (L2.at (wpAny_bind (L3.at ?_)))))
  simp only [hne, Bool.false_eq_true, if_false]
  ksp_lk
  refine two _ ?_
  ksp_lk
  refine wpAny_mono one (fun r s' hr' => ?_) fun _ _ e => e
  obtain ⟨v, rfl, hq⟩ := hr'
  ksp_lk
  exact hq
end
end Ol

namespace Ol
open PySem PySem.W PySem.Calls PyProof.Rows L2
section
variable {X : Cx} {CX : CXT} {k : Nat} {C f : Addr} {fd : FuncData} {ps : List Str} {sp : Sp} {E : XK} {pins : List (Addr × Obj)} {σ : L2.St} {H : Hp} {s : Shared}

/-- what the type of a value is looked up as -/
theorem looks_ty {x : V} {u t : Value} (I : Inv X pins σ H s) (rx : RelV x u) (ty : TyX X.K H x t) : Looks (model X.prog X.w) s.heap (typeOf u) t := by
  cases ty with
  | base b =>
    cases b with
    | non => cases (show u = Value.none from rx); exact Looks.of_pure rfl
    | bl y => cases (show u = Value.bool y from rx); exact Looks.of_pure rfl
    | int i => obtain ⟨t, q⟩ := (show ∃ t, u = Value.int i t from rx); cases q; exact Looks.of_pure rfl
    | str y => obtain ⟨t, q⟩ := (show ∃ t, u = Value.str y t from rx); cases q; exact Looks.of_pure rfl
    | flt y => obtain ⟨t, q⟩ := (show ∃ t, u = Value.float y t from rx); cases q; exact Looks.of_pure rfl
    | @lst a xs ea =>
      cases (show u = Value.ref a from rx)
      obtain ⟨_, _, n, _, h1⟩ := (show ObjOk X.prog X.w H s.heap a (.lst xs) from I.hok a _ ea)
      exact (Looks.ld h1).andThen .now
    | @frz a ob xs ea =>
      cases (show u = Value.ref a from rx)
      obtain ⟨_, _, _, n, _, h1⟩ := (show ObjOk X.prog X.w H s.heap a (.frz ob (.lst xs)) from I.hok a _ ea)
      exact (Looks.ld h1).andThen .now
    | @tup a xs ea =>
      cases (show u = Value.ref a from rx)
      obtain ⟨_, _, _, o, h1, h2, _⟩ := (show ObjOk X.prog X.w H s.heap a (.tup xs) from I.hok a _ ea)
      exact h2 ▸ (Looks.ld h1).andThen .now
    | @dK a kvs ea =>
      cases (show u = Value.ref a from rx)
      obtain ⟨_, _, vs, _, o, es, ep, h1, h2, _⟩ := (show ObjOk X.prog X.w H s.heap a (.dK kvs) from I.hok a _ ea)
      exact h2.1 ▸ (Looks.ld h1).andThen .now
    | @dT a kvs ea =>
      cases (show u = Value.ref a from rx)
      obtain ⟨_, _, xs, _, o, es, ep, h1, h2, _⟩ := (show ObjOk X.prog X.w H s.heap a (.dT kvs) from I.hok a _ ea)
      exact h2.1 ▸ (Looks.ld h1).andThen .now
    | @ins a C dx fs ea cl ha hn htk hm =>
      cases (show u = Value.ref a from rx)
      obtain ⟨mA, O, _⟩ := ins_get I.hok ea
      obtain ⟨od, J, _⟩ := O.look
      exact J.type
  | byt y => obtain ⟨t, q⟩ := (show ∃ t, u = Value.bytes y t from rx); cases q; exact Looks.of_pure rfl
  | @set a S n ea =>
    cases (show u = Value.ref a from rx)
    obtain ⟨o, _, _, _, e, ex, _⟩ := (show ObjOk X.prog X.w H s.heap a (.set S n) from I.hok a _ ea)
    exact ex.1 ▸ (Looks.ld e).andThen .now
  | @kList a o e c =>
    cases (show u = Value.ref a from rx)
    exact c ▸ (Looks.ld (I.kIn a o e)).andThen .now
  | @kTuple a o e c =>
    cases (show u = Value.ref a from rx)
    exact c ▸ (Looks.ld (I.kIn a o e)).andThen .now
  | @kDict a o e c =>
    cases (show u = Value.ref a from rx)
    exact c ▸ (Looks.ld (I.kIn a o e)).andThen .now
  | @fTuple a ob xs ea =>
    cases (show u = Value.ref a from rx)
    obtain ⟨_, _, _, _, o, h1, h2, _⟩ := (show ObjOk X.prog X.w H s.heap a (.frz ob (.tup xs)) from I.hok a _ ea)
    exact h2 ▸ (Looks.ld h1).andThen .now
  | @fDict a ob kvs ea =>
    cases (show u = Value.ref a from rx)
    obtain ⟨_, _, _, vs, _, o, es, ep, h1, h2, _⟩ := (show ObjOk X.prog X.w H s.heap a (.frz ob (.dK kvs)) from I.hok a _ ea)
    exact h2.1 ▸ (Looks.ld h1).andThen .now

theorem back_ep {Q : VK} {u : Value} {s' : Shared} (h : EP X pins σ Q u s') : W.CmpBack (EP X pins σ Q) u s' := by
  obtain ⟨v, H', I', r, q⟩ := id h
  cases v with
  | non => cases (show u = Value.none from r); exact h
  | bl b => cases (show u = Value.bool b from r); exact h
  | int i => obtain ⟨t, e⟩ := (show ∃ t, u = Value.int i t from r); cases e; exact h
  | str i => obtain ⟨t, e⟩ := (show ∃ t, u = Value.str i t from r); cases e; exact h
  | byt i => obtain ⟨t, e⟩ := (show ∃ t, u = Value.bytes i t from r); cases e; exact h
  | flt i => obtain ⟨t, e⟩ := (show ∃ t, u = Value.float i t from r); cases e; exact h
  | ref a => cases (show u = Value.ref a from r); exact h
  | ty n => cases (show u = Value.type n from r); exact h

/-! ### own operators -/
/-- a op b, a an int, b an instance with the reflected method f -/
def rRefl (C : Addr) (sp : Sp) (E : XK) : R2 := fun x y H Q => ∃ i a dx fs, x = .int i ∧ y = .ref a ∧ H a = some (.ins C dx fs) ∧ sp [.ref a, .int i] H Q E
structure ReflOf (K : Frag) (C : Addr) (op : Operator) (f : Addr) : Prop where
  first : selfFirst K C = true
  own : ∃ fo : Option Value, findIn K (.ref C) (PySem.dunder op.info.2) = some fo ∧ (fo = none ∨ ∃ g : Addr, fo = some (.ref g))
  at_ : findIn K (.ref C) (dunderR op.info.2) = some (some (.ref f))
  fn : isFn K (.ref f) = true
  sub : subIn K (.ref C) (.type "int") = some false
theorem op_refl {op : Operator} {id : String} (R : ReflOf X.K C op f) (fl : fillsNumberSlot (.type "int") op.info.2 = pure true) (sl : Slot "int" (PySem.dunder op.info.2) id) (lt : Lets id)
    (F : FnOk X.prog X.w X.K X.mg X.base CX k f fd ps sp) (hr : Room k X.A) (hb : Binds X.K fd ps []) (hx : Passes CX X E) : OpR X (binaryOp op) (rRefl C sp E) := by
  intro pins s σ H x y v u Q I rx ry h
  obtain ⟨i, a, dx, fs, rfl, rfl, ea, q⟩ := h
  obtain ⟨t, rfl⟩ := rx
  cases (show u = Value.ref a from ry)
  obtain ⟨mA, O, _⟩ := ins_get I.hok ea
  obtain ⟨od, J, _⟩ := O.look
  obtain ⟨fo, h1, h2⟩ := R.own
  refine refl_int I.kIn J O.obj R.first fl sl lt h1 h2 R.at_ R.fn R.sub ?_
  exact wpAny_mono (run_fn (us := [.ref a, .int i t]) (vs := [.ref a, .int i]) F hr hb .nil hx I (.cons rfl (.cons ⟨t, rfl⟩ .nil)) q) (fun _ _ z => back_ep z) fun _ _ z => z
/-- a op b, a an instance with the method f, b of a built-in type T -/
def rOwnL (K : Frag) (C : Addr) (T : String) (sp : Sp) (E : XK) : R2 := fun x y H Q => ∃ a dx fs, x = .ref a ∧ H a = some (.ins C dx fs) ∧ TyX K H y (.type T) ∧ sp [.ref a, y] H Q E
structure OwnOf (K : Frag) (C : Addr) (op : Operator) (T : String) (f : Addr) : Prop where
  first : selfFirst K C = true
  at_ : findIn K (.ref C) (PySem.dunder op.info.2) = some (some (.ref f))
  fn : isFn K (.ref f) = true
  refl : ∃ rc : Option Value, findIn K (.ref C) (dunderR op.info.2) = some rc ∧ (rc = none ∨ ∃ g : Addr, rc = some (.ref g))
  t1 : ∃ fo, findIn K (.type T) (PySem.dunder op.info.2) = some fo
  t2 : ∃ ro, findIn K (.type T) (dunderR op.info.2) = some ro
  sub : subIn K (.type T) (.ref C) = some false

theorem own_left {op : Operator} {b : Value} {T : String} {x : Addr} {ox : Obj} {od : Option Obj} {K : Frag} {prog : Program} {w : World} {A : Around} {Er : Value → Shared → Prop} {fo ro rc : Option Value} {Q : Value → Shared → Prop} (X : K.In s.heap) (I : InstAt s.heap x ox C od)
    (hb : Looks (model prog w) s.heap (typeOf b) (.type T)) (hc : selfFirst K C = true)
    (hs : findIn K (.ref C) (PySem.dunder op.info.2) = some (some (.ref f))) (hf : isFn K (.ref f) = true) (hr : findIn K (.ref C) (dunderR op.info.2) = some rc) (hp : rc = none ∨ ∃ g : Addr, rc = some (.ref g))
    (h1 : findIn K (.type T) (PySem.dunder op.info.2) = some fo) (h2 : findIn K (.type T) (dunderR op.info.2) = some ro) (hsub : subIn K (.type T) (.ref C) = some false)
    (h : wpAny (model prog w) A (call (.ref f) [.ref x, b]) (W.CmpBack Q) Er s) : wpAny (model prog w) A (binaryOp op (.ref x) b) Q Er s := by
  obtain ⟨cd, rest, hcd, hm⟩ := ksp_first hc
  rcases hi : op.info with ⟨sym, nm'⟩
  rw [hi] at hs hr h1 h2
  dsimp only at hs hr h1 h2
  have one := ksp_try X I hs hf h
  obtain ⟨hh, g, d, tt, os⟩ := s
  have L1 : Looks (model prog w) hh (typeOf (.ref x)) (.ref C) := I.type
  have L2 : Looks (model prog w) hh (typeOf b) (.type T) := hb
  have L3 : Looks (model prog w) hh (fillsNumberSlot (.ref C) nm') true := fills_K X hcd hm hs
  have L4 : Looks (model prog w) hh (fillsNumberSlot (.type T) nm') ((fo.isSome && !isSeqSlot fo) || (ro.isSome && !isSeqSlot ro)) := ksp_fillsT X h1 h2
  have L5 : Looks (model prog w) hh (isSubtype (.type T) (.ref C)) false := looks_subIn X hsub
  have L6 : Looks (model prog w) hh (numberSlotInPython (.ref C) nm') true := ksp_inPy X hs hr hp
  have L7 : Looks (model prog w) hh (numberSlotInPython (.type T) nm') false := Looks.of_pure rfl
  have L8 : Looks (model prog w) hh (typeLookup (.type T) (dunderR nm')) ro := looks_findIn X h2
  generalize ((fo.isSome && !isSeqSlot fo) || (ro.isSome && !isSeqSlot ro)) = right at L4
  have hne : (Value.ref C == Value.type T) = false := Bool.eq_false_iff.mpr fun q => by cases beq_iff_eq.mp q
  simp only [binaryOp, hi]
  refine wpAny_holding (wpAny_bind ?_)
  unfold binaryOp1
  refine wpAny_bind (L1.at (wpAny_bind (L2.at (wpAny_bind (L3.at ?_)))))
  simp only [hne, Bool.false_eq_true, if_false]
  cases right with
  | false =>
    ksp_lk
    refine wpAny_mono one (fun r s' hr' => ?_) fun _ _ e => e
    obtain ⟨v, rfl, hq⟩ := hr'
    ksp_lk
    exact hq
  | true =>
    ksp_lk
    refine wpAny_mono one (fun r s' hr' => ?_) fun _ _ e => e
    obtain ⟨v, rfl, hq⟩ := hr'
    ksp_lk
    exact hq
theorem op_ownL {op : Operator} {T : String} (R : OwnOf X.K C op T f) (F : FnOk X.prog X.w X.K X.mg X.base CX k f fd ps sp) (hr : Room k X.A) (hb : Binds X.K fd ps []) (hx : Passes CX X E) : OpR X (binaryOp op) (rOwnL X.K C T sp E) := by
  intro pins s σ H x y v u Q I rx ry h
  obtain ⟨a, dx, fs, rfl, ea, ty, q⟩ := h
  cases (show v = Value.ref a from rx)
  obtain ⟨mA, O, _⟩ := ins_get I.hok ea
  obtain ⟨od, J, _⟩ := O.look
  obtain ⟨rc, h1, h2⟩ := R.refl
  obtain ⟨fo, h3⟩ := R.t1
  obtain ⟨ro, h4⟩ := R.t2
  refine own_left I.kIn J (looks_ty I ry ty) R.first R.at_ R.fn h1 h2 h3 h4 R.sub ?_
  exact wpAny_mono (run_fn (us := [.ref a, u]) (vs := [.ref a, y]) F hr hb .nil hx I (.cons rfl (.cons ry .nil)) q) (fun _ _ z => back_ep z) fun _ _ z => z

/-- a == b and its like, a an instance with the method f -/
def rCmpO (K : Frag) (C : Addr) (sp : Sp) (E : XK) : R2 := fun x y H Q => ∃ a dx fs t, x = .ref a ∧ H a = some (.ins C dx fs) ∧ TyX K H y t ∧ notFirst K C t = true ∧ sp [.ref a, y] H Q E
structure CmpOf (K : Frag) (C : Addr) (op : CmpOp) (f : Addr) : Prop where
  at_ : findIn K (.ref C) (cmpInfo op).2.1 = some (some (.ref f))
  fn : isFn K (.ref f) = true
theorem op_cmpO {op : CmpOp} (hop : ∀ a b, compareOp op a b = richCompare op a b) (R : CmpOf X.K C op f) (F : FnOk X.prog X.w X.K X.mg X.base CX k f fd ps sp) (hr : Room k X.A) (hb : Binds X.K fd ps []) (hx : Passes CX X E) : OpR X (compareOp op) (rCmpO X.K C sp E) := by
  intro pins s σ H x y v u Q I rx ry h
  obtain ⟨a, dx, fs, t, rfl, ea, ty, nf, q⟩ := h
  cases (show v = Value.ref a from rx)
  obtain ⟨mA, O, _⟩ := ins_get I.hok ea
  obtain ⟨od, J, _⟩ := O.look
  obtain ⟨m, Fm⟩ := I.fr
  rw [hop]
  refine cmp_K hr.units0 Fm I.mod.kin J (looks_ty I ry ty) nf R.at_ R.fn ?_
  exact wpAny_mono (run_fn (us := [.ref a, u]) (vs := [.ref a, y]) F hr hb .nil hx I (.cons rfl (.cons ry .nil)) q) (fun _ _ z => back_ep z) fun _ _ z => z

/-- b in a, a an instance with the method f -/
def rInO (C : Addr) (sp : Sp) (E : XK) (g : Bool → Bool) : R2 := fun x y H Q => ∃ a dx fs, y = .ref a ∧ H a = some (.ins C dx fs) ∧ sp [.ref a, x] H (fun v H' => ∃ b, v = .bl b ∧ Q (.bl (g b)) H') E
theorem op_inO (R : Meth X.K C "__contains__" f) (F : FnOk X.prog X.w X.K X.mg X.base CX k f fd ps sp) (hr : Room k X.A) (hb : Binds X.K fd ps []) (hx : Passes CX X E) : OpR X (compareOp .In) (rInO C sp E id) := by
  intro pins s σ H x y v u Q I rx ry h
  obtain ⟨a, dx, fs, rfl, ea, q⟩ := h
  cases (show u = Value.ref a from ry)
  obtain ⟨mA, O, _⟩ := ins_get I.hok ea
  obtain ⟨od, J, _⟩ := O.look
  obtain ⟨m, Fm⟩ := I.fr
  refine in_K Fm I.mod.kin J R.at_ R.fn ?_
  refine wpAny_mono (run_fn (us := [.ref a, v]) (vs := [.ref a, x]) F hr hb .nil hx I (.cons rfl (.cons rx .nil)) q) (fun z s' hz => ?_) fun _ _ z => z
  obtain ⟨v', H', I', r', b, rfl, q'⟩ := hz
  cases (show z = Value.bool b from r')
  exact wpAny_truthy_bool ⟨.bl b, H', I', rfl, q'⟩
theorem op_notInO (R : Meth X.K C "__contains__" f) (F : FnOk X.prog X.w X.K X.mg X.base CX k f fd ps sp) (hr : Room k X.A) (hb : Binds X.K fd ps []) (hx : Passes CX X E) : OpR X (compareOp .NotIn) (rInO C sp E not) := by
  intro pins s σ H x y v u Q I rx ry h
  obtain ⟨a, dx, fs, rfl, ea, q⟩ := h
  cases (show u = Value.ref a from ry)
  obtain ⟨mA, O, _⟩ := ins_get I.hok ea
  obtain ⟨od, J, _⟩ := O.look
  obtain ⟨m, Fm⟩ := I.fr
  refine notIn_K Fm I.mod.kin J R.at_ R.fn ?_
  refine wpAny_mono (run_fn (us := [.ref a, v]) (vs := [.ref a, x]) F hr hb .nil hx I (.cons rfl (.cons rx .nil)) q) (fun z s' hz => ?_) fun _ _ z => z
  obtain ⟨v', H', I', r', b, rfl, q'⟩ := hz
  cases (show z = Value.bool b from r')
  exact wpAny_truthy_bool ⟨.bl (!b), H', I', rfl, q'⟩

/-- a != b by the __eq__ of the class of a and object's __ne__ -/
structure NeOf (K : Frag) (C : Addr) (f : Addr) : Prop where
  eq : findIn K (.ref C) "__eq__" = some (some (.ref f))
  fn : isFn K (.ref f) = true
  ne : findIn K (.ref C) "__ne__" = some (some (.builtin "object.__ne__"))
  obj : mroIn K C (.type "object") = some true
theorem ne_obj {b tb : Value} {x : Addr} {ox : Obj} {od : Option Obj} {K : Frag} {prog : Program} {w : World} {A : Around} {Er : Value → Shared → Prop} {Q : Value → Shared → Prop} (hu : A.units + 1 < cLine) (X : K.In s.heap) (I : InstAt s.heap x ox C od)
    (hb : Looks (model prog w) s.heap (typeOf b) tb) (hn : notFirst K C tb = true) (R : NeOf K C f)
    (h : wpAny (model prog w) A.in1 (call (.ref f) [.ref x, b]) (fun v s' => ∃ k, v = .bool k ∧ Q (.bool (!k)) s') Er s) : wpAny (model prog w) A (compareOp .NotEq (.ref x) b) Q Er s := by
  have sub : Looks (model prog w) s.heap (isInstance (.ref x) (.type "object")) true := I.type.andThen (looks_mroIn X R.obj)
  have one : wpAny (model prog w) A (tryCompare (.ref x) "__ne__" b) (fun r s' => ∃ v, r = some v ∧ Q v s') Er s := by
    unfold tryCompare
    refine wpAny_bind ?_
    simp only [callSpecialIfBound?, bindSpecialIfBound?]
    refine wpAny_holding (wpAny_bind (wpAny_bind (wpAny_bind (I.type.here ((looks_findIn X R.ne).here ?_)))))
    have S := F.cmp_object.ne
    simp only [S.bind]
    refine wpAny_bind (wpAny_askSetting (wpAny_ite ?_))
    have fin : wpAny (model prog w) A (call (.builtin "object.__ne__") ([.ref x] ++ [b]) >>= fun v => pure (some v)) (fun a s' => wpAny (model prog w) A (match a with | some .notImplemented | none => pure none | some v => pure (some v)) (fun r s' => ∃ v, r = some v ∧ Q v s') Er s') Er s := by
      refine wpAny_bind (wpAny_call (codeAny_call_builtin S.plain F.cmpEntry_ne (check_slot F.cmpKind_ne F.cmpSplit_ne sub (F.cmpArgs_ne _ _) ?_)))
      unfold Builtin.«object.__ne__»
      obtain ⟨hp, g, d, t, os⟩ := s
      repeat (first
        | with_reducible refine wpAny_cRoomFor hu ?_
        | (refine wpAny_bind (m := callSpecialIfBound? (.ref x) (Str.ofString "__eq__") [b])
            (ifBound_K X I R.eq R.fn (wpAny_mono h (fun r s' hr => by
              obtain ⟨k, rfl, hq⟩ := hr
              repeat (first | exact ⟨_, rfl, hq⟩ | exact wpAny_pure (wpAny_pure ⟨_, rfl, hq⟩) | exact wpAny_pure ⟨_, rfl, hq⟩ | exact wpAny_truthy_bool hq | (refine wpAny_bind (m := truthy (.bool _)) (wpAny_truthy_bool ?_)) | wp_step)) fun _ _ e => e)))
        | wp_step)
    split
    · exact wpAny_bind (wpAny_pure (wpAny_pure (by exact fin)))
    · exact wpAny_tryCatch (wpAny_bind (wpAny_pure (wpAny_pure (by exact fin))))
  show wpAny _ _ (richCompare .NotEq (.ref x) b) _ _ _
  unfold richCompare
  simp only [oneThing_ref]
  refine wpAny_holding (wpAny_bind (wpAny_cRoomFor (Nat.lt_of_succ_lt hu) ?_))
  rw [show cmpInfo .NotEq = (("!=", "__ne__", "__ne__") : String × Str × Str) from rfl]
  dsimp only
  refine wpAny_bind (I.type.here (wpAny_bind (hb.here ?_)))
  split
  · rename_i q
    have e : subIn K tb (.ref C) = some false := by
      rcases Bool.or_eq_true_iff.mp hn with e | e
      · rw [beq_iff_eq.mp e] at q; simp at q
      · exact beq_iff_eq.mp e
    refine wpAny_bind ((looks_subIn X e).here ?_)
    simp only [Bool.false_eq_true, if_false]
    refine wpAny_bind (wpAny_mono one (fun r s' z => ?_) fun _ _ e => e)
    obtain ⟨v, rfl, hq⟩ := z
    exact wpAny_pure hq
  · refine wpAny_bind (wpAny_pure ?_)
    simp only [Bool.false_eq_true, if_false]
    refine wpAny_bind (wpAny_mono one (fun r s' z => ?_) fun _ _ e => e)
    obtain ⟨v, rfl, hq⟩ := z
    exact wpAny_pure hq

def rNeO (K : Frag) (C : Addr) (sp : Sp) (E : XK) : R2 := fun x y H Q => ∃ a dx fs t, x = .ref a ∧ H a = some (.ins C dx fs) ∧ TyX K H y t ∧ notFirst K C t = true ∧ sp [.ref a, y] H (fun v H' => ∃ b, v = .bl b ∧ Q (.bl (!b)) H') E
theorem run_in1 {Q : VK} {us : List Value} {vs : List V} (F : FnOk X.prog X.w X.K X.mg X.base CX k f fd ps sp) (hr : Room (k + 1) X.A) (hb : Binds X.K fd ps []) (hx : Passes CX X E)
    (I : Inv X pins σ H s) (r : Vals vs us) (h : sp vs H Q E) : wpAny (model X.prog X.w) X.A.in1 (call (.ref f) us) (EP X pins σ Q) X.xe s := by
  have hl : us.length = ps.length := by rw [← r.length]; exact F.len _ _ _ _ h
  have hb' := hb s us I.kIn (by rw [List.append_nil]; exact hl)
  rw [List.append_nil] at hb'
  refine wpAny_call (codeAny_mono (F.run X.A.in1 X.stack s H ⟨us, []⟩ us vs Q E hr.in1 I.env0.in1 hb' r h) fun r s' hq => ?_)
  cases r with
  | error e => exact hx pins σ H s e s' I hq
  | ok fl =>
    cases fl with
    | ret u => exact I.after hq
    | next => exact False.elim hq
    | brk => exact False.elim hq
    | cont => exact False.elim hq
theorem op_neO (R : NeOf X.K C f) (F : FnOk X.prog X.w X.K X.mg X.base CX k f fd ps sp) (hr : Room (k + 1) X.A) (hb : Binds X.K fd ps []) (hx : Passes CX X E) : OpR X (compareOp .NotEq) (rNeO X.K C sp E) := by
  intro pins s σ H x y v u Q I rx ry h
  obtain ⟨a, dx, fs, t, rfl, ea, ty, nf, q⟩ := h
  cases (show v = Value.ref a from rx)
  obtain ⟨mA, O, _⟩ := ins_get I.hok ea
  obtain ⟨od, J, _⟩ := O.look
  refine ne_obj (hu_of hr) I.kIn J (looks_ty I ry ty) nf R ?_
  refine wpAny_mono (run_in1 (us := [.ref a, u]) (vs := [.ref a, y]) F hr hb hx I (.cons rfl (.cons ry .nil)) q) (fun z s' hz => ?_) fun _ _ z => z
  obtain ⟨v', H', I', r', b, rfl, q'⟩ := hz
  cases (show z = Value.bool b from r')
  exact ⟨b, rfl, .bl (!b), H', I', rfl, q'⟩
theorem rich_eq (a b : Value) : compareOp .Eq a b = richCompare .Eq a b := rfl
theorem rich_lt (a b : Value) : compareOp .Lt a b = richCompare .Lt a b := rfl
theorem rich_le (a b : Value) : compareOp .LtE a b = richCompare .LtE a b := rfl
theorem rich_gt (a b : Value) : compareOp .Gt a b = richCompare .Gt a b := rfl
theorem rich_ge (a b : Value) : compareOp .GtE a b = richCompare .GtE a b := rfl
end
end Ol

namespace Ol
open PySem L2
theorem pe_gi {X : Cx} {x : Str} {i : Int} {pos : Pos} (hg : Gl X x) (h : ∃ t, X.mg x = some (Value.int i t)) (hd : (x == ("__debug__" : Str)) = false := by decide) : PE X (.Name x pos) (tC (.int i)) := by
  obtain ⟨t, h⟩ := h
  exact pe_glob hg h ⟨t, rfl⟩ hd
/-! ### heaps that a pen is drawn from -/
/-- all that stands beside p stays -/
def Go (p : Addr) (H H' : Hp) : Prop := ∀ b o, b ≠ p → H b = some o → H' b = some o
theorem Go.refl (p : Addr) (H : Hp) : Go p H H := fun _ _ _ h => h
theorem Go.trans {p : Addr} {H H1 H2 : Hp} (a : Go p H H1) (b : Go p H1 H2) : Go p H H2 := fun c o n h => b c o n (a c o n h)
theorem Same.go {p : Addr} {H H' : Hp} (s : Same H H') : Go p H H' := fun b o _ h => s b o h
theorem Same.new {H : Hp} {q : Addr} {o : HO} (h : H q = none) : Same H (upd H q o) := fun b u e => by rw [upd_ne (ne_of_none e h)]; exact e
theorem Go.new {p : Addr} {H : Hp} {q : Addr} {o : HO} (h : H q = none) : Go p H (upd H q o) := Same.go (Same.new h)
/-- an object beside p -/
structure At (p : Addr) (H : Hp) (b : Addr) (o : HO) : Prop where
  ne : b ≠ p
  at_ : H b = some o
theorem At.go {p b : Addr} {H H' : Hp} {o : HO} (a : At p H b o) (g : Go p H H') : At p H' b o := ⟨a.ne, g _ _ a.ne a.at_⟩
/-- the pen: its cells, how many are used, what is left of a great one; n more draws are let -/
def Pen (p : Addr) (H : Hp) (n : Nat) : Prop := ∃ (l : Addr) (cells : List Int) (spot great : Int), H p = some (.lst [.ref l, .int spot, .int great]) ∧ l ≠ p ∧ H l = some (.lst (cells.map V.int)) ∧ 0 ≤ spot ∧ spot + n ≤ 4000000 ∧ 0 ≤ great ∧ cells.length ≤ 63
theorem Pen.le {p : Addr} {H : Hp} {m n : Nat} (h : Pen p H n) (le : m ≤ n) : Pen p H m := by
  obtain ⟨l, c, s, g, h1, h2, h3, h4, h5, h6, h7⟩ := h
  exact ⟨l, c, s, g, h1, h2, h3, h4, by omega, h6, h7⟩
theorem Pen.same {p : Addr} {H H' : Hp} {n : Nat} (h : Pen p H n) (s : Same H H') : Pen p H' n := by
  obtain ⟨l, c, sp, g, h1, h2, h3, h4⟩ := h
  exact ⟨l, c, sp, g, s _ _ h1, h2, s _ _ h3, h4⟩
theorem Pen.new {p q : Addr} {H : Hp} {n : Nat} {o : HO} (h : Pen p H n) (hq : H q = none) : Pen p (upd H q o) n := h.same (Same.new hq)
theorem Pen.ne {p q : Addr} {H : Hp} {n : Nat} (h : Pen p H n) (hq : H q = none) : q ≠ p := by
  obtain ⟨l, c, sp, g, h1, _⟩ := h
  exact (ne_of_none h1 hq).symm
/-- a new object beside the pen -/
theorem Pen.at {p q : Addr} {H : Hp} {n : Nat} {o : HO} (h : Pen p H n) (hq : H q = none) : At p (upd H q o) q o := ⟨h.ne hq, upd_same⟩
theorem Pen.ins {p b C dx : Addr} {fs : List (Str × V)} {H : Hp} {n : Nat} (h : Pen p H n) (hb : H b = some (.ins C dx fs)) : At p H b (.ins C dx fs) := by
  obtain ⟨l, c, sp, g, h1, _⟩ := h
  exact ⟨ne_of hb h1 (by intro z; cases z), hb⟩
theorem Pen.tup {p b : Addr} {xs : List V} {H : Hp} {n : Nat} (h : Pen p H n) (hb : H b = some (.tup xs)) : At p H b (.tup xs) := by
  obtain ⟨l, c, sp, g, h1, _⟩ := h
  exact ⟨ne_of hb h1 (by intro z; cases z), hb⟩
/-! ### the promises of the law's own pen -/
def spPen (K : PySem.W.Frag) : Sp := fun vs H Q _ => ∃ (a : Addr) (ns : List Int), vs = [.ref a] ∧ SqL K H a (ns.map V.int) ∧ ns.length ≤ 63 ∧ ∀ (p : Addr) (H' : Hp), Same H H' → H p = none → Pen p H' 4000000 → Q (.ref p) H'
def spDraw : Sp := fun vs H Q _ => ∃ (p : Addr) (many : Int) (n : Nat), vs = [.ref p, .int many] ∧ 0 < many ∧ many.natAbs < 2 ^ 250 ∧ Pen p H (n + 1) ∧ ∀ (d : Int) (H' : Hp), Go p H H' → Pen p H' n → 0 ≤ d → d < many → Q (.int d) H'
def spPick (K : PySem.W.Frag) : Sp := fun vs H Q _ => ∃ (p q : Addr) (xs : List V) (n : Nat), vs = [.ref p, .ref q] ∧ At p H q (.lst xs) ∧ 0 < xs.length ∧ xs.length ≤ 1000 ∧ Pen p H (n + 1) ∧ ∀ (v : V) (H' : Hp), Go p H H' → Pen p H' n → v ∈ xs → Q v H'
/-! ### kinds -/
structure IsC (K : PySem.W.Frag) (C : Addr) : Prop where
  cl : Cls K C
  ha : PySem.W.findIn K (.ref C) "__class__" = some (some (.builtin "object.__class__"))
  hn : PySem.W.specialIn K (.builtin "object.__class__") "__get__" = some (some (.builtin "getset_descriptor.__get__"))
  htk : PySem.W.takesIn K (.builtin "object.__class__") = some true
  hm : PySem.W.mroIn K C (.type "object") = some true
theorem IsC.ty {K : PySem.W.Frag} {C a dx : Addr} {fs : List (Str × V)} {H : Hp} (i : IsC K C) (h : H a = some (.ins C dx fs)) : TyX K H (.ref a) (.ref C) := .base (.ins h i.cl i.ha i.hn i.htk i.hm)
theorem kit_int_int {K : PySem.W.Frag} : PySem.W.kitOne K (.type "int") (.type "int") = some true := kit_ty (by decide +kernel)
theorem kit_int_bool {K : PySem.W.Frag} : PySem.W.kitOne K (.type "int") (.type "bool") = some false := kit_ty (by decide +kernel)
theorem kit_bool_int {K : PySem.W.Frag} : PySem.W.kitOne K (.type "bool") (.type "int") = some true := kit_ty (by decide +kernel)
theorem kit_bool_bool {K : PySem.W.Frag} : PySem.W.kitOne K (.type "bool") (.type "bool") = some true := kit_ty (by decide +kernel)
theorem kit_self {K : PySem.W.Frag} {t : Value} : PySem.W.kitOne K t t = some true := by unfold PySem.W.kitOne; rw [if_pos (by simp)]
/-- a value that is no int (a bool may be) -/
def NoInt (K : PySem.W.Frag) (H : Hp) (x : V) : Prop := ∃ (t : Value) (b : Bool), TyX K H x t ∧ PySem.W.kitOne K t (.type "int") = some b ∧ (b = true → PySem.W.kitOne K t (.type "bool") = some true)
def spIsInt (K : PySem.W.Frag) : Sp := fun vs H Q _ => ∃ x, vs = [x] ∧ ((∃ i, x = .int i ∧ Q (.bl true) H) ∨ (NoInt K H x ∧ Q (.bl false) H))
def spBetween (K : PySem.W.Frag) : Sp := fun vs H Q _ => ∃ x lo hi, vs = [x, .int lo, .int hi] ∧ ((∃ i, x = .int i ∧ Q (.bl (decide (lo ≤ i ∧ i ≤ hi))) H) ∨ (NoInt K H x ∧ Q (.bl false) H))
def spMoment (K : PySem.W.Frag) : Sp := fun vs H Q _ => ∃ x, vs = [x] ∧ ((∃ i, x = .int i ∧ Q (.bl (decide (i.natAbs < 10 ^ 60))) H) ∨ (NoInt K H x ∧ Q (.bl false) H))
end Ol

namespace Ol
open PySem L2
/-! ### one reading, one step -/
section
variable {K : PySem.W.Frag} {σ : L2.St} {H : Hp} {Q : VK} {ta tb tc te : TE} {t u : TT} {ts us : TS} {tr : TA} {D : Ends} {v x y : V} {i j : Int} {C : Addr}
theorem t_ret (h : te σ H D.rt) : tRet te D σ H := h
theorem t_retN (h : D.rt .non H) : tRetN D σ H := h
theorem t_next (h : D.nx σ H) : tNext D σ H := h
theorem t_break (h : D.bk σ H) : tBreak D σ H := h
theorem t_cont (h : D.ct σ H) : tCont D σ H := h
theorem t_seq (h : ts { D with nx := us D } σ H) : tSeq ts us D σ H := h
theorem t_drop (h : te σ H fun _ H1 => D.nx σ H1) : tDrop te D σ H := h
theorem t_asg {g : TG} (h : te σ H fun x H1 => g x σ H1 D.nx) : tAsg te g D σ H := h
theorem t_name {k : Nat} {R : L2.St → Hp → Prop} (h : R (σ.set k (some v)) H) : gName k v σ H R := h
theorem t_ifS (h : t σ H fun b H1 => if b = true then ts D σ H1 else us D σ H1) : tIfS t ts us D σ H := h
theorem t_par {k l : Nat} (h : tr σ H fun vs H1 => ∃ v w, vs = [v, w] ∧ D.nx ((σ.set k (some v)).set l (some w)) H1) : tPar k l tr D σ H := h
theorem ex_par {P : V → V → Prop} (h : P x y) : ∃ v w, [x, y] = [v, w] ∧ P v w := ⟨x, y, rfl, h⟩
theorem t_var {k : Nat} (e : σ[k]? = some (some v)) (h : Q v H) : tVar k σ H Q := ⟨v, e, h⟩
theorem t_c (h : Q v H) : tC v σ H Q := h
theorem t_op {r : R2} (h : ta σ H fun x H1 => tb σ H1 fun y H2 => r x y H2 Q) : tOp r ta tb σ H Q := h
theorem t_un {r : V → Hp → VK → Prop} (h : ta σ H fun x H1 => r x H1 Q) : tUn r ta σ H Q := h
theorem t_andV (h : ta σ H fun x H1 => ∃ c, x = .bl c ∧ if c = true then tb σ H1 Q else Q (.bl false) H1) : tAndV ta tb σ H Q := h
theorem t_orV (h : ta σ H fun x H1 => ∃ c, x = .bl c ∧ if c = true then Q (.bl true) H1 else tb σ H1 Q) : tOrV ta tb σ H Q := h
theorem t_notV (h : ta σ H fun x H1 => ∃ c, x = .bl c ∧ Q (.bl (!c)) H1) : tNotV ta σ H Q := h
theorem t_if (h : t σ H fun c H1 => if c = true then ta σ H1 Q else tb σ H1 Q) : tIf t ta tb σ H Q := h
theorem t_B {R : Bool → Hp → Prop} (h : te σ H fun x H1 => ∃ c, x = .bl c ∧ R c H1) : tB te σ H R := h
theorem t_test {R : Bool → Hp → Prop} (h : te σ H fun x H1 => ∃ c, x = .bl c ∧ R c H1) : tTest te σ H R := h
theorem t_and {R : Bool → Hp → Prop} (h : t σ H fun c H1 => if c = true then u σ H1 R else R false H1) : tAnd t u σ H R := h
theorem t_or {R : Bool → Hp → Prop} (h : t σ H fun c H1 => if c = true then R true H1 else u σ H1 R) : tOr t u σ H R := h
theorem t_not {R : Bool → Hp → Prop} (h : t σ H fun c H1 => R (!c) H1) : tNot t σ H R := h
theorem t_chain {r r' : R2} (h : ta σ H fun x H1 => tb σ H1 fun y H2 => r x y H2 fun z H3 => ∃ k, z = .bl k ∧ (if k = true then tc σ H3 fun w' H4 => r' y w' H4 Q else Q (.bl false) H3)) : tChain r r' ta tb tc σ H Q := h
theorem t_cb {r : List V → Hp → VK → Prop} (h : tr σ H fun vs H1 => r vs H1 Q) : tCB r tr σ H Q := h
theorem t_nil {R : List V → Hp → Prop} (h : R [] H) : tNil σ H R := h
theorem t_cons {R : List V → Hp → Prop} (h : ta σ H fun x H1 => tr σ H1 fun xs H2 => R (x :: xs) H2) : tCons ta tr σ H R := h
theorem t_call {sp : Sp} {E : XK} (h : tr σ H fun vs H1 => sp vs H1 Q E) : tCall sp [] E tr σ H Q := by
  show tr σ H fun vs H1 => sp (vs ++ []) H1 Q E
  simpa only [List.append_nil] using h
theorem t_meth {m : Str} {sp : Sp} {E : XK} (h : ta σ H fun x H1 => ∃ a dx fs, x = .ref a ∧ H1 a = some (.ins C dx fs) ∧ fs.lookup m = none ∧ tr σ H1 fun vs H2 => sp (x :: vs) H2 Q E) : tMeth C m sp [] E ta tr σ H Q := by
  show ta σ H fun x H1 => ∃ a dx fs, x = .ref a ∧ H1 a = some (.ins C dx fs) ∧ fs.lookup m = none ∧ tr σ H1 fun vs H2 => sp (x :: (vs ++ [])) H2 Q E
  simpa only [List.append_nil] using h
theorem t_lst (h : tr σ H fun xs H1 => xs.length ≤ sizeLine ∧ ∀ p, H1 p = none → Q (.ref p) (upd H1 p (.lst xs))) : tLst tr σ H Q := h
theorem t_tup (h : tr σ H fun xs H1 => xs.length ≤ sizeLine ∧ ∀ p, H1 p = none → Q (.ref p) (upd H1 p (.tup xs))) : tTup tr σ H Q := h
theorem t_fld {f : Str} (h : ta σ H fun x H1 => ∃ a C dx fs v, x = .ref a ∧ H1 a = some (.ins C dx fs) ∧ Cls K C ∧ NoAttr K C f ∧ fs.lookup f = some v ∧ Q v H1) : tFld K ta f σ H Q := h
theorem t_sfld {f : Str} (h : tb σ H fun y H1 => ta σ H1 fun x H2 => ∃ a C dx fs, x = .ref a ∧ H2 a = some (.ins C dx fs) ∧ Cls K C ∧ NoAttr K C f ∧ fs.length < 1000 ∧ D.nx σ (upd H2 a (.ins C dx (putF f y fs)))) : sFld K ta tb f D σ H := h
theorem lst_ok {xs : List V} (h : Nat.ble xs.length 1000 = true) : xs.length ≤ sizeLine := Nat.le_trans (Nat.le_of_ble_eq_true h) (by decide)
theorem t_noPart {R : Option Int → Hp → Prop} (h : R none H) : tNoPart σ H R := h
theorem t_part {R : Option Int → Hp → Prop} (h : te σ H fun x H1 => ∃ i, x = .int i ∧ R (some i) H1) : tPart te σ H R := h
theorem t_sl {r : V → Option Int → Option Int → Hp → VK → Prop} {tl th : TO} (h : te σ H fun x H1 => tl σ H1 fun l H2 => th σ H2 fun u H3 => r x l u H3 Q) : tSl r te tl th σ H Q := h
theorem t_sub {to ti : TE} {ts : TSet} {R : L2.St → Hp → Prop} (h : to σ H fun o H1 => ti σ H1 fun i H2 => ts o i v H2 fun H3 => R σ H3) : gSub to ti ts v σ H R := h
theorem ex_bl {b : Bool} {P : Bool → Prop} (h : P b) : ∃ c, V.bl b = V.bl c ∧ P c := ⟨b, rfl, h⟩
theorem ex_int {P : Int → Prop} (h : P i) : ∃ c, V.int i = V.int c ∧ P c := ⟨i, rfl, h⟩
theorem r_I0 {g : Int → Int → V} (h : Q (g i j) H) : rI0 g (.int i) (.int j) H Q := ⟨i, j, rfl, rfl, h⟩
theorem r_I {c : Int → Int → Prop} {g : Int → Int → V} (hc : c i j) (h : Q (g i j) H) : rI c g (.int i) (.int j) H Q := ⟨i, j, rfl, rfl, hc, h⟩
theorem r_U {g : Int → V} (h : Q (g i) H) : rU g (.int i) H Q := ⟨i, rfl, h⟩
theorem dec_int {i j : Int} : decide (V.int i = V.int j) = decide (i = j) := by
  by_cases e : i = j
  · rw [e]; simp
  · rw [decide_eq_false e, decide_eq_false fun q => e (V.int.inj q)]
theorem dec_bl {i j : Bool} : decide (V.bl i = V.bl j) = decide (i = j) := by
  by_cases e : i = j
  · rw [e]; simp
  · rw [decide_eq_false e, decide_eq_false fun q => e (V.bl.inj q)]
theorem dec_str {i j : Str} : decide (V.str i = V.str j) = decide (i = j) := by
  by_cases e : i = j
  · rw [e]; simp
  · rw [decide_eq_false e, decide_eq_false fun q => e (V.str.inj q)]
theorem r_eqI (h : Q (.bl (decide (i = j))) H) : rEq (.int i) (.int j) H Q := ⟨rfl, by rw [dec_int]; exact h⟩
theorem r_neI (h : Q (.bl (!decide (i = j))) H) : rNe (.int i) (.int j) H Q := ⟨rfl, by rw [dec_int]; exact h⟩
theorem r_eqB {i j : Bool} (h : Q (.bl (decide (i = j))) H) : rEq (.bl i) (.bl j) H Q := ⟨rfl, by rw [dec_bl]; exact h⟩
theorem r_neB {i j : Bool} (h : Q (.bl (!decide (i = j))) H) : rNe (.bl i) (.bl j) H Q := ⟨rfl, by rw [dec_bl]; exact h⟩
theorem r_eqS {i j : Str} (h : Q (.bl (decide (i = j))) H) : rEq (.str i) (.str j) H Q := ⟨rfl, by rw [dec_str]; exact h⟩
theorem r_neS {i j : Str} (h : Q (.bl (!decide (i = j))) H) : rNe (.str i) (.str j) H Q := ⟨rfl, by rw [dec_str]; exact h⟩
theorem r_ixL {p : Addr} {xs : List V} (h : SqL K H p xs) (e : atI xs i = some v) (q : Q v H) : rIxL K (.ref p) (.int i) H Q := ⟨p, xs, i, v, rfl, rfl, h, e, q⟩
theorem r_ixT {p : Addr} {xs : List V} (h : SqT K H p xs) (e : atI xs i = some v) (q : Q v H) : rIxT K (.ref p) (.int i) H Q := ⟨p, xs, i, v, rfl, rfl, h, e, q⟩
theorem c_int1 {P : Int → Prop} {R : Prop} (h : P i) : (∃ k, [V.int i] = [V.int k] ∧ P k) ∨ R := .inl ⟨i, rfl, h⟩
theorem c_intB {b : Bool} {P : Bool → Prop} {R : Prop} (h : P b) : R ∨ ∃ k, [V.bl b] = [V.bl k] ∧ P k := .inr ⟨b, rfl, h⟩
theorem ite_n {b : Bool} {A B : Prop} (h : if b = true then B else A) : if (!b) = true then A else B := by cases b <;> exact h
theorem ite_y {c : Prop} [Decidable c] {A B : Prop} (hc : c) (h : A) : if decide c = true then A else B := by rw [decide_eq_true hc]; exact iteT h
theorem ite_f {c : Prop} [Decidable c] {A B : Prop} (hc : ¬ c) (h : B) : if decide c = true then A else B := by rw [decide_eq_false hc]; exact iteF h
theorem ite_d {c : Prop} [Decidable c] {A B : Prop} (h1 : c → A) (h2 : ¬ c → B) : if decide c = true then A else B := by
  by_cases hc : c
  · exact ite_y hc (h1 hc)
  · exact ite_f hc (h2 hc)
theorem t_make {sp : Sp} {E : XK} (h : tr σ H fun vs H1 => ∀ x dx, H1 x = none → H1 dx = none → dx ≠ x → sp (.ref x :: vs) (upd (upd H1 dx (.own x)) x (.ins C dx [])) (fun v H2 => v = .non ∧ Q (.ref x) H2) E) : tMake C sp [] E tr σ H Q := by
  show tr σ H fun vs H1 => ∀ x dx, H1 x = none → H1 dx = none → dx ≠ x → sp (.ref x :: (vs ++ [])) (upd (upd H1 dx (.own x)) x (.ins C dx [])) (fun v H2 => v = .non ∧ Q (.ref x) H2) E
  simpa only [List.append_nil] using h
theorem t_par3 {k l m : Nat} (h : tr σ H fun vs H1 => ∃ u v w, vs = [u, v, w] ∧ D.nx (((σ.set k (some u)).set l (some v)).set m (some w)) H1) : tPar3 k l m tr D σ H := h
def ForW (J : L2.It) (g : TG) (tb : TS) (D : Ends) (σ : L2.St) (H1 : Hp) : Prop := ∃ W : Nat → Nat → L2.St → Hp → Prop, (∃ m, W 0 m σ H1) ∧ ∀ i m σ H, W i m σ H →
  (J.stop i H ∧ D.nx σ H) ∨ (J.go i H ∧ ∃ N : L2.St → Hp → Prop, (∀ σ' H', N σ' H' → ∃ m', m' < m ∧ W (i + 1) m' σ' H') ∧ ∀ x H', J.yld i H x H' → g x σ H' fun σ2 H2 => tb { D with nx := N, ct := N, bk := D.nx } σ2 H2)
theorem t_for1 {g : TG} (h : tr σ H fun vs H1 => ∃ j : Int, vs = [.int j] ∧ -(2 ^ 62) ≤ j ∧ j < 2 ^ 62 ∧ ForW (Itr 0 j.toNat) g ts D σ H1) : tFor (iRng1 tr) g ts D σ H := h
theorem t_forL {g : TG} (h : ta σ H fun x H1 => ∃ a, x = .ref a ∧ (∃ xs, SqL K H1 a xs) ∧ ForW (Itl K a) g ts D σ H1) : tFor (iList K ta) g ts D σ H := h
theorem t_forT {g : TG} (h : ta σ H fun x H1 => ∃ a, x = .ref a ∧ (∃ xs, SqT K H1 a xs) ∧ ForW (Itt K a) g ts D σ H1) : tFor (iTup K ta) g ts D σ H := h
theorem ex_rng {g : TG} {n : Nat} {j : Int} (hj : j = (n : Int)) (hn : n < 2 ^ 62) (Pv : Nat → L2.St → Hp → Prop) (h0 : Pv 0 σ H) (hs : ∀ (i : Nat) σ H, i < n → Pv i σ H → g (.int (i : Int)) σ H fun σ2 H2 => ts { D with nx := Pv (i + 1), ct := Pv (i + 1), bk := D.nx } σ2 H2)
    (hd : ∀ σ H, Pv n σ H → D.nx σ H) : -(2 ^ 62) ≤ j ∧ j < 2 ^ 62 ∧ ForW (Itr 0 j.toNat) g ts D σ H := by
  subst hj
  refine ⟨by omega, by omega, for_range (lo := 0) (n := n) Pv h0 (fun i σ H hi p => ?_) hd⟩
  rw [Int.zero_add]
  exact hs i σ H hi p
theorem ex_lst {g : TG} {a : Addr} {xs : List V} (hx : SqL K H a xs) (Pv : Nat → L2.St → Hp → Prop) (h0 : Pv 0 σ H) (hl : ∀ i σ H, i ≤ xs.length → Pv i σ H → SqL K H a xs)
    (hs : ∀ i x σ H, xs[i]? = some x → Pv i σ H → g x σ H fun σ2 H2 => ts { D with nx := Pv (i + 1), ct := Pv (i + 1), bk := D.nx } σ2 H2) (hd : ∀ σ H, Pv xs.length σ H → D.nx σ H) :
    ∃ b, V.ref a = .ref b ∧ (∃ xs, SqL K H b xs) ∧ ForW (Itl K b) g ts D σ H := ⟨a, rfl, ⟨xs, hx⟩, for_list Pv h0 hl hs hd⟩
theorem ex_tup {g : TG} {a : Addr} {xs : List V} (hx : SqT K H a xs) (Pv : Nat → L2.St → Hp → Prop) (h0 : Pv 0 σ H) (hl : ∀ i σ H, i ≤ xs.length → Pv i σ H → SqT K H a xs)
    (hs : ∀ i x σ H, xs[i]? = some x → Pv i σ H → g x σ H fun σ2 H2 => ts { D with nx := Pv (i + 1), ct := Pv (i + 1), bk := D.nx } σ2 H2) (hd : ∀ σ H, Pv xs.length σ H → D.nx σ H) :
    ∃ b, V.ref a = .ref b ∧ (∃ xs, SqT K H b xs) ∧ ForW (Itt K b) g ts D σ H := ⟨a, rfl, ⟨xs, hx⟩, for_tup Pv h0 hl hs hd⟩
theorem dpAll_ints : ∀ ns : List Int, DpAll K H (ns.map V.int) (ns.map PyData.int)
  | [] => .nil
  | n :: r => .cons (.int n) (dpAll_ints r)
theorem r_neNil {p q : Addr} {ns : List Int} (h1 : SqL K H p (ns.map V.int)) (h2 : SqL K H q []) (h : Q (.bl (!ns.isEmpty)) H) : rNeD K (.ref p) (.ref q) H Q := by
  refine ⟨_, _, .lst h1 (dpAll_ints ns), .lst h2 .nil, PySem.W.ke_shaped_ints ns, by decide, ?_⟩
  cases ns with
  | nil => exact h
  | cons n r => exact h
theorem c_len {p : Addr} {xs : List V} {P : List V → Prop} (h : SqL K H p xs ∨ SqT K H p xs) (q : P xs) : ∃ a ys, [V.ref p] = [.ref a] ∧ (SqL K H a ys ∨ SqT K H a ys) ∧ P ys := ⟨p, xs, rfl, h, q⟩
theorem c_abs {P : Int → Prop} (h : P i) : ∃ k, [V.int i] = [.int k] ∧ P k := ⟨i, rfl, h⟩
theorem ex_par3 {z : V} {P : V → V → V → Prop} (h : P x y z) : ∃ v w u, [x, y, z] = [v, w, u] ∧ P v w u := ⟨x, y, z, rfl, h⟩
theorem abs_lt60 {i : Int} : decide ((if i < 0 then -i else i) < 10 ^ Int.toNat 60) = decide (i.natAbs < 10 ^ 60) := by
  have e : (10 : Int) ^ Int.toNat 60 = ((10 ^ 60 : Nat) : Int) := by decide
  rw [e]
  generalize (10 ^ 60 : Nat) = n
  by_cases h : i.natAbs < n
  · rw [decide_eq_true h, decide_eq_true]; split <;> omega
  · rw [decide_eq_false h, decide_eq_false]; split <;> omega
end
theorem cut63 {ns : List Int} (h : ns.length ≤ 63) : cutV (ns.map V.int) none (some 63) = ns.map V.int := by
  have e1 : HT.sIx (ns.map V.int).length 0 none = 0 := rfl
  have e2 : HT.sIx (ns.map V.int).length (ns.map V.int).length (some 63) = ns.length := by
    unfold HT.sIx
    simp only [List.length_map]
    first | omega | (split <;> omega) | (simp; omega)
  unfold cutV
  rw [e1, e2, List.drop_zero, Nat.sub_zero, ← List.length_map (f := V.int), List.take_length]
theorem at_ints {ns : List Int} {i : Int} (h0 : 0 ≤ i) (h1 : i < ns.length) : ∃ c, atI (ns.map V.int) i = some (.int c) := by
  obtain ⟨j, rfl⟩ : ∃ j : Nat, i = j := ⟨i.toNat, by omega⟩
  have hj : j < ns.length := by omega
  refine ⟨ns[j], ?_⟩
  unfold atI
  rw [List.length_map, Evl.ixN_nat hj]
  simp [hj]
theorem at_mem {xs : List V} {i : Int} (h0 : 0 ≤ i) (h1 : i < xs.length) : ∃ v, atI xs i = some v ∧ v ∈ xs := by
  obtain ⟨j, rfl⟩ : ∃ j : Nat, i = j := ⟨i.toNat, by omega⟩
  have hj : j < xs.length := by omega
  refine ⟨xs[j], ?_, List.getElem_mem hj⟩
  unfold atI
  rw [Evl.ixN_nat hj]
  simp [hj]
theorem t_cut {D : Ends} {σ : L2.St} {H : Hp} {ts us : TS} (Mid : L2.St → Hp → Prop) (h1 : ts { D with nx := Mid } σ H) (h2 : ∀ σ' H', Mid σ' H' → us D σ' H') : Evl.tCut ts us D σ H := ⟨Mid, h1, h2⟩
theorem mix_lt {b s k m c : Int} (b0 : 0 ≤ b) (b1 : b < 2147483648) (s0 : 0 ≤ s) (s1 : s ≤ 4000000) (k0 : 0 ≤ k) (k1 : k ≤ 1000) (m0 : 0 ≤ m) (m1 : m ≤ 100000) (c0 : 0 ≤ c) (c1 : c ≤ 1000) : (b * (2 * s + k) + m * s * s + c).natAbs < 2 ^ 64 := by
  have h1 : b * (2 * s + k) ≤ 2147483648 * 8001000 := Int.mul_le_mul (by omega) (by omega) (by omega) (by omega)
  have h2 : 0 ≤ b * (2 * s + k) := Int.mul_nonneg b0 (by omega)
  have h3 : m * s ≤ 100000 * 4000000 := Int.mul_le_mul m1 s1 s0 (by omega)
  have h4 : 0 ≤ m * s := Int.mul_nonneg m0 s0
  have h5 : m * s * s ≤ (100000 * 4000000) * 4000000 := Int.mul_le_mul h3 s1 s0 (by omega)
  have h6 : 0 ≤ m * s * s := Int.mul_nonneg h4 s0
  omega
theorem Go.set {p : Addr} {H : Hp} {o : HO} : Go p H (upd H p o) := fun b u n e => by rw [upd_ne n]; exact e
theorem if_int {b : Bool} {σ : L2.St} {H : Hp} {Q : VK} {ta tb : TE} {i j : Int} (h1 : ∀ Q : VK, Q (.int i) H → ta σ H Q) (h2 : ∀ Q : VK, Q (.int j) H → tb σ H Q) (h : Q (.int (if b = true then i else j)) H) : if b = true then ta σ H Q else tb σ H Q := by
  cases b with
  | true => exact h1 Q h
  | false => exact h2 Q h
/-! ### days -/
def DayAt (C : Addr) (H : Hp) (a : Addr) (L : Int) : Prop := (1 ≤ L ∧ L ≤ 1000000000000) ∧ ∃ dx, H a = some (.ins C dx [("length", .int L)])
theorem DayAt.same {C : Addr} {H H' : Hp} {a : Addr} {L : Int} (d : DayAt C H a L) (s : Same H H') : DayAt C H' a L := ⟨d.1, let ⟨dx, h⟩ := d.2; ⟨dx, s _ _ h⟩⟩
theorem DayAt.go {C p : Addr} {H H' : Hp} {a : Addr} {L : Int} {n : Nat} (d : DayAt C H a L) (P : Pen p H n) (g : Go p H H') : DayAt C H' a L := ⟨d.1, let ⟨dx, h⟩ := d.2; ⟨dx, ((P.ins h).go g).at_⟩⟩
theorem DayAt.new {C q : Addr} {H : Hp} {a : Addr} {L : Int} {o : HO} (d : DayAt C H a L) (h : H q = none) : DayAt C (upd H q o) a L := d.same (Same.new h)
def spLongBy : Sp := fun vs H Q _ => ∃ L k : Int, vs = [.int L, .int k] ∧ (1 ≤ L ∧ L ≤ 1000000000000) ∧ (1 ≤ k * L ∧ k * L ≤ 1000000000000) ∧ Q (.int (k * L)) H
def spDayInit (C : Addr) : Sp := fun vs H Q _ => ∃ (a dx : Addr) (L : Int), vs = [.ref a, .int L] ∧ (1 ≤ L ∧ L ≤ 1000000000000) ∧ H a = some (.ins C dx []) ∧ Q .non (upd H a (.ins C dx [("length", .int L)]))
def spRmod (C : Addr) : Sp := fun vs H Q _ => ∃ (a : Addr) (m L : Int), vs = [.ref a, .int m] ∧ DayAt C H a L ∧ m.natAbs < 10 ^ 60 ∧ Q (.int (m % L)) H
def spRfdiv (C : Addr) : Sp := fun vs H Q _ => ∃ (a : Addr) (m L : Int), vs = [.ref a, .int m] ∧ DayAt C H a L ∧ m.natAbs < 10 ^ 60 ∧ Q (.int (m / L)) H
def spForward (C : Addr) : Sp := fun vs H Q _ => ∃ (a : Addr) (m n L : Int), vs = [.ref a, .int m, .int n] ∧ DayAt C H a L ∧ m.natAbs < 10 ^ 60 ∧ n.natAbs < 10 ^ 60 ∧ ∀ H', Same H H' → Q (.int ((n - m) % L)) H'
def spDayMul (C : Addr) : Sp := fun vs H Q _ => ∃ (a : Addr) (k L : Int), vs = [.ref a, .int k] ∧ DayAt C H a L ∧ (1 ≤ k * L ∧ k * L ≤ 1000000000000) ∧ ∀ b H', Same H H' → H b = none → DayAt C H' b (k * L) → Q (.ref b) H'
def spDayEq (C : Addr) : Sp := fun vs H Q _ => ∃ (a b : Addr) (L M : Int), vs = [.ref a, .ref b] ∧ DayAt C H a L ∧ DayAt C H b M ∧ Q (.bl (decide (L = M))) H
theorem make_day {C : Addr} {H : Hp} {L : Int} {R : Addr → Hp → Prop} {E : XK} (hL : 1 ≤ L ∧ L ≤ 1000000000000) (h : ∀ b H', Same H H' → H b = none → DayAt C H' b L → R b H') :
    ∀ x dx, H x = none → H dx = none → dx ≠ x → spDayInit C [.ref x, .int L] (upd (upd H dx (.own x)) x (.ins C dx [])) (fun v H2 => v = .non ∧ R x H2) E := by
  intro x dx hx hd ne
  refine ⟨x, dx, L, rfl, hL, upd_same, rfl, h x _ (fun b o e => ?_) hx ⟨hL, dx, upd_same⟩⟩
  rw [upd_ne (ne_of_none e hx), upd_ne (ne_of_none e hx), upd_ne (ne_of_none e hd)]
  exact e
section
variable {K : PySem.W.Frag} {C a b : Addr} {H : Hp} {Q : VK} {E : XK} {L M m n k : Int} {R : Prop}
theorem notFirst_self : PySem.W.notFirst K C (.ref C) = true := by unfold PySem.W.notFirst; simp
theorem r_rmod (d : DayAt C H a L) (hm : m.natAbs < 10 ^ 60) (q : Q (.int (m % L)) H) : rRefl C (spRmod C) E (.int m) (.ref a) H Q := by
  obtain ⟨_, dx, h⟩ := id d
  exact ⟨m, a, dx, _, rfl, rfl, h, a, m, L, rfl, d, hm, q⟩
theorem r_rfdiv (d : DayAt C H a L) (hm : m.natAbs < 10 ^ 60) (q : Q (.int (m / L)) H) : rRefl C (spRfdiv C) E (.int m) (.ref a) H Q := by
  obtain ⟨_, dx, h⟩ := id d
  exact ⟨m, a, dx, _, rfl, rfl, h, a, m, L, rfl, d, hm, q⟩
theorem x_fwd (d : DayAt C H a L) (k : R) : ∃ a' dx fs, V.ref a = V.ref a' ∧ H a' = some (.ins C dx fs) ∧ fs.lookup ("forward" : Str) = none ∧ R := by
  obtain ⟨_, dx, h⟩ := id d
  exact ⟨a, dx, _, rfl, h, rfl, k⟩
theorem s_fwd (d : DayAt C H a L) (hm : m.natAbs < 10 ^ 60) (hn : n.natAbs < 10 ^ 60) (k : ∀ H', Same H H' → Q (.int ((n - m) % L)) H') : spForward C [.ref a, .int m, .int n] H Q E := ⟨a, m, n, L, rfl, d, hm, hn, k⟩
theorem r_dmul (d : DayAt C H a L) (hk : 1 ≤ k * L ∧ k * L ≤ 1000000000000) (q : ∀ b H', Same H H' → H b = none → DayAt C H' b (k * L) → Q (.ref b) H') : rOwnL K C "int" (spDayMul C) E (.ref a) (.int k) H Q := by
  obtain ⟨_, dx, h⟩ := id d
  exact ⟨a, dx, _, rfl, h, .base (.int k), a, k, L, rfl, d, hk, q⟩
theorem r_rdmul (d : DayAt C H a L) (hk : 1 ≤ k * L ∧ k * L ≤ 1000000000000) (q : ∀ b H', Same H H' → H b = none → DayAt C H' b (k * L) → Q (.ref b) H') : rRefl C (spDayMul C) E (.int k) (.ref a) H Q := by
  obtain ⟨_, dx, h⟩ := id d
  exact ⟨k, a, dx, _, rfl, rfl, h, a, k, L, rfl, d, hk, q⟩
theorem r_deq (I : IsC K C) (d : DayAt C H a L) (e : DayAt C H b M) (q : Q (.bl (decide (L = M))) H) : rCmpO K C (spDayEq C) E (.ref a) (.ref b) H Q := by
  obtain ⟨_, dx, h⟩ := id d
  obtain ⟨_, dy, h2⟩ := id e
  exact ⟨a, dx, _, _, rfl, h, I.ty h2, notFirst_self, a, b, L, M, rfl, d, e, q⟩
theorem r_dne (I : IsC K C) (d : DayAt C H a L) (e : DayAt C H b M) (q : Q (.bl (!decide (L = M))) H) : rNeO K C (spDayEq C) E (.ref a) (.ref b) H Q := by
  obtain ⟨_, dx, h⟩ := id d
  obtain ⟨_, dy, h2⟩ := id e
  exact ⟨a, dx, _, _, rfl, h, I.ty h2, notFirst_self, a, b, L, M, rfl, d, e, _, rfl, q⟩
theorem x_len (c : Cls K C) (n : NoAttr K C "length") (d : DayAt C H a L) {P : V → Prop} (q : P (.int L)) : ∃ a' C' dx fs v, V.ref a = V.ref a' ∧ H a' = some (.ins C' dx fs) ∧ Cls K C' ∧ NoAttr K C' "length" ∧ fs.lookup ("length" : Str) = some v ∧ P v := by
  obtain ⟨_, dx, h⟩ := id d
  exact ⟨a, C, dx, _, _, rfl, h, c, n, rfl, q⟩
end
end Ol

namespace Ol
open PySem PySem.Spec PyProof.Rows L2
/-- a def's promise where no repr runs around the call -/
structure FnG (P : Program) (w : World) (K : PySem.W.Frag) (mg : Str → Option Value) (base : Heap) (CX : CXT) (k : Nat) (f : Addr) (fd : FuncData) (ps : List Str) (sp : Sp) : Prop where
  len : ∀ vs H Q E, sp vs H Q E → vs.length = ps.length
  run : ∀ (A : Around) (outer : List Env) (s : Shared) (H : Hp) (args : Args) (us : List Value) (vs : List V) (Q : VK) (E : XK), A.guards = some [] → Room k A → Env0 P w K mg base A outer s H → BindsTo s fd args (ps.zip us) → Vals vs us → sp vs H Q E →
    codeAny (model P w) A (.call (.ref f) args) (CR CX outer P w H s Q E) s
section
variable {P : Program} {w : World} {K : PySem.W.Frag} {mg : Str → Option Value} {base : Heap} {CX : CXT} {k : Nat} {f : Addr} {fd : FuncData} {ps : List Str} {sp : Sp}
theorem FnG.of (F : FnOk P w K mg base CX k f fd ps sp) : FnG P w K mg base CX k f fd ps sp := ⟨F.len, fun A o s H a u v Q E _ => F.run A o s H a u v Q E⟩
/-- a def by its body, where no repr runs around it -/
theorem Fun.okG {x qual : Str} {st : Stmt} {N : List Str} (F : Fun K x qual st f fd) (S : FnScope N ps (defScope st)) (len : ∀ vs H Q E, sp vs H Q E → vs.length = ps.length)
    (hbody : ∀ (cdv : Value) (A : Around) (outer : List Env) (s : Shared) (H : Hp) (vs : List V) (Q : VK) (E : XK), (A.deeper (envOfC qual (defScope st) s.heap.objs.size f cdv)).guards = some [] → Room k (A.deeper (envOfC qual (defScope st) s.heap.objs.size f cdv)) → sp vs H Q E →
      ∃ t, PSs (cxOf CX P w K mg base N qual (defScope st) f cdv A outer s H E) (defBody st) t ∧ t { nx := fun _ H' => Q .non H', rt := Q } (L2.start N vs) H) : FnG P w K mg base CX (k + 1) f fd ps sp := by
  obtain ⟨oc, od, kV, doc, pm, an, cdv, ct, osl, rfl, lk, hcd⟩ := F.ex
  refine ⟨len, fun A outer s H args us vs Q E hg hr e0 hb r hsp => ?_⟩
  have hk : ∀ b o, base.get? b = some o → s.heap.get? b = some o := fun b o e => (e0.bs b o e).1
  have KX := e0.mod.kin.keeps hk
  refine codeAny_call_function hr.depth (KX _ _ lk) rfl S.co S.gen rfl (PySem.W.codeRec_of KX hcd) (hb _ _ _ _ ?_)
  refine wpAny_newFunctionEnv_cells S.kind (fun y hy => ?_) fun env he s1 x => ?_
  · rcases S.par y.1 (List.of_mem_zip hy).1 with q | q
    · exact .inl q
    · exact .inr ⟨q, PySem.W.cellsFrom_some _ _ _ (.inl q)⟩
  subst he
  refine ⟨(e0.mod.nolimit.keeps hk).keeps x.toInCall.keep, codeAny_func ?_⟩
  obtain ⟨t, ht, hq⟩ := hbody cdv A outer s H vs Q E hg (hr.deeper _) hsp
  have I : Inv (cxOf CX P w K mg base N qual (defScope st) f cdv A outer s H E) [] (L2.start N vs) H s1 := inv_start S hr.hd e0 (len _ _ _ _ hsp) r x
  refine wpAny_mono (ht.run [] s1 _ H _ I hq) (fun fl s' hs => ?_) fun e s' hs => hs
  cases fl with
  | ret u =>
    obtain ⟨v, σ', H', J, rv, q⟩ := hs
    exact ⟨v, H', J.os, J.bare, J.base, J.hok, rv, q⟩
  | next =>
    obtain ⟨σ', H', J, q⟩ := hs
    exact ⟨.non, H', J.os, J.bare, J.base, J.hok, rfl, q⟩
  | brk =>
    obtain ⟨_, _, _, q⟩ := hs
    exact False.elim q
  | cont =>
    obtain ⟨_, _, _, q⟩ := hs
    exact False.elim q
end
section
variable {X : Cx} {CX : CXT} {k : Nat} {f C : Addr} {fd : FuncData} {ps : List Str} {sp : Sp} {E : XK} {x : Str} {p pos : Pos} {e : Expr} {es : List Expr} {t : TA}
theorem run_fnG {pins : List (Addr × Obj)} {σ : L2.St} {H : Hp} {s : Shared} {Q : VK} {us : List Value} {vs : List V} (F : FnG X.prog X.w X.K X.mg X.base CX k f fd ps sp) (hg : X.A.guards = some []) (hr : Room k X.A) (hb : Binds X.K fd ps []) (hx : Passes CX X E)
    (I : Inv X pins σ H s) (r : Vals vs us) (h : sp vs H Q E) : wpAny (model X.prog X.w) X.A (call (.ref f) us) (EP X pins σ Q) X.xe s := by
  have hl : us.length = ps.length := by rw [← r.length]; exact F.len _ _ _ _ h
  have hb' := hb s us I.kIn (by rw [List.append_nil]; exact hl)
  rw [List.append_nil] at hb'
  refine wpAny_call (codeAny_mono (F.run X.A X.stack s H ⟨us, []⟩ us vs Q E hg hr I.env0 hb' r h) fun r s' hq => ?_)
  cases r with
  | error e => exact hx pins σ H s e s' I hq
  | ok fl =>
    cases fl with
    | ret u => exact I.after hq
    | next => exact False.elim hq
    | brk => exact False.elim hq
    | cont => exact False.elim hq
theorem pe_callG (F : FnG X.prog X.w X.K X.mg X.base CX k f fd ps sp) (hgd : X.A.guards = some []) (hr : Room k X.A) (hg : Gl X x) (hm : X.mg x = some (.ref f)) (hk : PySem.W.keepIn X.K (.ref f) = true) (hb : Binds X.K fd ps []) (hx : Passes CX X E)
    (ha : PA X (e :: es) t) (hdb : (x == ("__debug__" : Str)) = false := by decide) (he : starEach (e :: es) X.env = (false, eval e X.env) :: starEach es X.env := by rfl) (hpl : (backTo pos (starEach es X.env)).any (·.1) = false := by rfl) :
    PE X (.Call (.Name x p) (e :: es) [] pos) (tCall sp [] E t) := by
  refine ⟨fun pins s σ H Q I h => ?_⟩
  refine wpAny_Call_Name_kw (ld_glob I hg hm ?_ hdb)
  refine PySem.W.callWith_K (h₀ := X.base) I.ok.mod.kin hk (thn (ha.run pos pins s σ H _ I h) fun us s1 ⟨vs, H1, I1, r, q⟩ => ⟨I1.kIn, ?_⟩) he hpl
  have q' : sp (vs ++ []) H1 Q E := q
  rw [List.append_nil] at q'
  exact run_fnG F hgd hr hb hx I1 r q'
theorem pe_call0G (F : FnG X.prog X.w X.K X.mg X.base CX k f fd ps sp) (hgd : X.A.guards = some []) (hr : Room k X.A) (hg : Gl X x) (hm : X.mg x = some (.ref f)) (hk : PySem.W.keepIn X.K (.ref f) = true) (hb : Binds X.K fd ps []) (hx : Passes CX X E)
    (hdb : (x == ("__debug__" : Str)) = false := by decide) : PE X (.Call (.Name x p) [] [] pos) (tCall sp [] E tNil) := by
  refine ⟨fun pins s σ H Q I h => ?_⟩
  refine wpAny_Call_Name_kw (ld_glob I hg hm ?_ hdb)
  exact PySem.W.callWith_K0 I.kIn hk (run_fnG (us := []) F hgd hr hb hx I .nil h)
/-- data that repr shows in at most n signs -/
structure Sh (d : PyData) (n k : Nat) : Prop where
  s : d.showable = true
  h : d.hasDict = false
  l : d.shown.length ≤ n
  k : d.depth ≤ k
theorem Sh.le {d : PyData} {n m k j : Nat} (x : Sh d n k) (h : n ≤ m) (h2 : k ≤ j) : Sh d m j := ⟨x.s, x.h, Nat.le_trans x.l h, Nat.le_trans x.k h2⟩
theorem Sh.none : Sh .none 4 0 := ⟨rfl, rfl, by decide, Nat.le_refl _⟩
theorem Sh.bool (b : Bool) : Sh (.bool b) 5 0 := ⟨rfl, rfl, by cases b <;> decide, Nat.le_refl _⟩
theorem Sh.int {i : Int} (h : i.natAbs < 10 ^ 75) : Sh (.int i) 76 0 := by
  have e : i.natAbs < 2 ^ 250 := Nat.lt_trans h (by decide)
  refine ⟨decide_eq_true (Nat.lt_of_lt_of_le (PySem.Flt.log2_lt_of (by decide) e) (by decide)), rfl, ?_, Nat.le_refl _⟩
  show (Str.ofString (toString i)).length ≤ 76
  have h1 := int_text_length_le10 (a := i) (k := 75) (by decide) h
  rw [PyProof.Rows.ofString_len]
  exact h1
theorem shAll {n k : Nat} : ∀ {ds : List PyData}, (∀ d ∈ ds, Sh d n k) → PyData.showableAll ds = true ∧ PyData.hasDictAll ds = false ∧ ((PyData.shownAll ds).map (·.length)).sum ≤ ds.length * n ∧ PyData.depthAll ds ≤ k
  | [], _ => ⟨rfl, rfl, by simp [PyData.shownAll], Nat.zero_le _⟩
  | d :: r, h => by
    obtain ⟨h1, h2, h3, h4⟩ := shAll fun e he => h e (List.mem_cons_of_mem _ he)
    have x := h d List.mem_cons_self
    refine ⟨?_, ?_, ?_, ?_⟩
    · show (d.showable && PyData.showableAll r) = true
      rw [x.s, h1]; rfl
    · show (d.hasDict || PyData.hasDictAll r) = false
      rw [x.h, h2]; rfl
    · show ((d.shown :: PyData.shownAll r).map (·.length)).sum ≤ (d :: r).length * n
      rw [List.map_cons, List.sum_cons, List.length_cons, Nat.add_mul, Nat.one_mul]
      have := x.l
      omega
    · show max d.depth (PyData.depthAll r) ≤ k
      exact Nat.max_le.mpr ⟨x.k, h4⟩
theorem Sh.list {ds : List PyData} {n k : Nat} (h : ∀ d ∈ ds, Sh d n k) : Sh (.list ds) (ds.length * n + 2 * ds.length + 3) (k + 1) := by
  obtain ⟨h1, h2, h3, h4⟩ := shAll h
  refine ⟨h1, h2, ?_, ?_⟩
  · have a := listText_len_le (PyData.shownAll ds)
    have b := PyData.shownAll_length ds
    show (listText (PyData.shownAll ds)).length ≤ _
    omega
  · show PyData.depth (.list ds) ≤ k + 1
    simp only [PyData.depth]
    omega
theorem Sh.tuple {ds : List PyData} {n k : Nat} (h : ∀ d ∈ ds, Sh d n k) : Sh (.tuple ds) (ds.length * n + 2 * ds.length + 3) (k + 1) := by
  obtain ⟨h1, h2, h3, h4⟩ := shAll h
  refine ⟨h1, h2, ?_, ?_⟩
  · have a := tupleText_len_le (PyData.shownAll ds)
    have b := PyData.shownAll_length ds
    show (tupleText (PyData.shownAll ds)).length ≤ _
    omega
  · show PyData.depth (.tuple ds) ≤ k + 1
    simp only [PyData.depth]
    omega
/-- repr of data: None, bools, numbers, texts, lists, tuples -/
def rRepr (K : PySem.W.Frag) : List V → Hp → VK → Prop := fun xs H Q => ∃ (x : V) (d : PyData) (n : Nat), xs = [x] ∧ Dp K H x d ∧ Sh d n 40 ∧ n ≤ sizeLine ∧ Q (.str d.shown) H
theorem call_reprD {k : Nat} (hgd : X.A.guards = some []) (hr : Room k X.A) : CallR X (.builtin "repr") (rRepr X.K) := by
  intro pins s σ H xs us Q I r h
  obtain ⟨x, d, n, rfl, dp, sh, hn, q⟩ := h
  obtain ⟨u, rfl, ru⟩ := vals1 r
  have hz := Nat.le_trans sh.l hn
  cases dp with
  | non => cases (show u = Value.none from ru); exact PySem.P.repr_of_none ⟨.str _, H, I.tok _, ⟨_, rfl⟩, q⟩
  | bl b => cases (show u = Value.bool b from ru); exact PySem.P.repr_of_bool ⟨.str _, H, I.tok _, ⟨_, by cases b <;> rfl⟩, q⟩
  | int i => obtain ⟨t, e⟩ := (show ∃ t, u = Value.int i t from ru); cases e; exact PySem.P.repr_of_int (of_decide_eq_true sh.s) ⟨.str _, H, I.tok _, ⟨_, rfl⟩, q⟩
  | str y => obtain ⟨t, e⟩ := (show ∃ t, u = Value.str y t from ru); cases e; exact PySem.P.repr_of_str ⟨.str _, H, I.tok _, ⟨_, rfl⟩, q⟩ hz
  | @lst a ys ds h1 h2 =>
    cases (show u = Value.ref a from ru)
    obtain ⟨as, rd⟩ := Dp.reads I _ _ _ (.lst h1 h2) rfl
    exact repr_of_reads' rd sh.s (PyData.noDict_hsm sh.h) hgd (by have := sh.k; have := hr.un; omega) (fun _ _ e => e) (fun h' t tk hk => ⟨.str _, H, I.kept hk, ⟨_, rfl⟩, q⟩) hz
  | @tup a ys ds h1 h2 =>
    cases (show u = Value.ref a from ru)
    obtain ⟨as, rd⟩ := Dp.reads I _ _ _ (.tup h1 h2) rfl
    exact repr_of_reads' rd sh.s (PyData.noDict_hsm sh.h) hgd (by have := sh.k; have := hr.un; omega) (fun _ _ e => e) (fun h' t tk hk => ⟨.str _, H, I.kept hk, ⟨_, rfl⟩, q⟩) hz
end
/-! ### the end, where no repr runs around the law's call -/
def lawHp (a : Addr) (o : Obj) (xs : List V) : Hp := fun b => if b = a then some (.frz o (.lst xs)) else none
theorem walk_ofG {l : PySem.W.OpenLaw} {n k : Nat} {q : Program} {loose : List Str} {XP : (Str → Option Value) → Heap → Prop} {YP : World → Heap → Prop} {d : DefRec} {K : Params → PySem.W.Frag} {CX : World → CXT} {sp : World → Sp} {x : Str}
    (hn : l.most = some n) (hn2 : n ≤ sizeLine) (hdf : d.params.defaults = []) (hr : Room k callerA)
    (hY : ∀ (w : World) (h : Heap), YP w h → (K w.params).In h)
    (F : ∀ (w : World) (mg : Str → Option Value) (fa : Addr) (h : Heap), (K w.params).In h → h.Ns mainGlobals mg → mg d.name = some (.ref fa) →
      ∃ fd : FuncData, (∀ (s : Shared) (u : Value), BindsTo s fd ⟨[u], []⟩ [(x, u)]) ∧
        ∀ base : Heap, (K w.params).In base → base.Ns mainGlobals mg → FnG l.prog w (K w.params) mg base (CX w) k fa fd [x] (sp w))
    (hsp : ∀ (w : World) (H : Hp) (a : Addr) (ns : List Int), ns.length ≤ n → Only H → SqL (K w.params) H a (ns.map V.int) → sp w [.ref a] H (fun v _ => v = .bl true) fun _ _ _ => False)
    (hCX : ∀ (w : World) (H : Hp) (s : Shared) (e : Value) (s' : Shared), CX w [] H s (fun _ _ _ => False) e s' → False) :
    PySem.W.WalkO q loose XP YP l.row.toRowW d [] (fun f vs => PySem.call f vs) := by
  refine Att.attach_call hn hdf fun w s₀ s₁ mg mb fa o pm cd doc a vs ns G Y ho hd hcd hmg hobj hints hlen hg => ?_
  have KX := hY w _ Y
  obtain ⟨fd, hb, hF⟩ := F w mg fa _ KX G.T.g hmg
  have rv : Vals (ns.map V.int) vs := vals_ints hints
  have lenV := hints.length
  have hl := Nat.le_trans hlen hn2
  have core : ∀ H : Hp, Only H → SqL (K w.params) H a (ns.map V.int) → HOk l.prog w H s₁.heap → (∀ b, H b ≠ none → b = a) → (H a ≠ none → (K w.params).lookup a = none) →
      codeAny (model l.prog w) callerA (.call (.ref fa) ⟨[.ref a], []⟩) (fun r s' => r = .ok (.ret (.bool true)) ∧ OldK s₁.heap s'.heap ∧ s'.os = s₁.os ∧ AllBare s'.gens) s₁ := by
    intro H hO hS hok hA hK
    have free : ∀ {b : Addr} {o : Obj}, s₁.heap.get? b = some o → (b = a → False) → H b = none := fun {b o} e n => by
      cases z : H b with
      | none => rfl
      | some u => exact (n (hA b (by rw [z]; simp))).elim
    have nsK : ∀ {b : Addr} {m : Str → Option Value}, s₁.heap.Ns b m → (hidT s₁.heap H).Ns b m := fun {b m} ⟨o, es, ep, e, d, r⟩ => ⟨o, es, ep, hidT_get e (free e fun z => by
      subst z
      rw [hobj] at e; cases e
      exact nomatch (show Data.seq vs.toArray _ = Data.dict es ep from d)), d, r⟩
    have hKb : (K w.params).In (hidT s₁.heap H) := fun b o e => hidT_get (KX b o e) (by
      cases z : H b with
      | none => rfl
      | some u =>
        have e' : b = a := hA b (by rw [z]; simp)
        subst e'
        rw [hK (by rw [z]; simp)] at e; cases e)
    have hM : Mod (K w.params) mg (hidT s₁.heap H) := ⟨hKb, nsK G.T.g, ⟨mb, nsK G.T.b, G.T.builtins⟩, let ⟨mc, h1, h2⟩ := G.T.nolimit; ⟨mc, nsK h1, h2⟩⟩
    have e0 : Env0 l.prog w (K w.params) mg (hidT s₁.heap H) callerA [] s₁ H := ⟨rfl, hM, fun b o e => of_hidT e, Nat.le_of_eq (hidT_size _ _), trivial, fun b hb => absurd (show b ∈ ([] : List Addr) from hb) (by simp), hok, .of_eq hg⟩
    refine codeAny_mono ((hF _ hKb (nsK G.T.g)).run callerA [] s₁ H ⟨[.ref a], []⟩ [.ref a] [.ref a] _ _ rfl hr e0 (hb s₁ (.ref a)) (.cons rfl .nil) (hsp w H a ns hlen hO hS)) fun r s' h => ?_
    cases r with
    | error e => exact (hCX w H s₁ e s' h).elim
    | ok fl =>
      cases fl with
      | next => exact False.elim h
      | brk => exact False.elim h
      | cont => exact False.elim h
      | ret u =>
        obtain ⟨v, H', os, bare, un, hok', r', q⟩ := h
        cases (show v = .bl true from q)
        cases (show u = Value.bool true from r')
        refine ⟨rfl, OldK.of_keep fun b o e => ?_, os, bare⟩
        cases z : H b with
        | none => exact un.keep b o e z (by intro y; exact absurd (show b ∈ ([] : List Addr) from y) (by simp)) (by simp)
        | some u =>
          rcases hO b with y | ⟨ob, xs, y⟩
          · rw [z] at y; cases y
          · obtain ⟨e1, _⟩ := hok b _ y
            obtain ⟨e2, _⟩ := hok' b _ (un.frzs b ob _ y)
            rw [e] at e1; cases e1
            exact e2
  cases hk : (K w.params).lookup a with
  | some o =>
    have e := KX a o hk
    rw [hobj] at e
    cases e
    exact core (fun _ => none) (fun _ => .inl rfl) (.inr ⟨_, vs.toArray, _, hk, rfl, rfl, rfl, by rw [List.size_toArray, lenV]; exact hl, by simpa using rv⟩) (fun b u z => nomatch (show (none : Option HO) = some u from z)) (fun b z => absurd rfl z) fun z => absurd rfl z
  | none =>
    have at_a : lawHp a { cls := .type "list", data := .seq vs.toArray } (ns.map V.int) a = some (.frz { cls := .type "list", data := .seq vs.toArray } (.lst (ns.map V.int))) := if_pos rfl
    have off : ∀ b, b ≠ a → lawHp a { cls := .type "list", data := .seq vs.toArray } (ns.map V.int) b = none := fun b h => if_neg h
    refine core (lawHp a { cls := .type "list", data := .seq vs.toArray } (ns.map V.int)) (fun b => ?_) (.inl (.inr ⟨_, at_a⟩)) (fun b u z => ?_) (fun b z => ?_) fun _ => hk
    · by_cases hb : b = a
      · subst hb; exact .inr ⟨_, _, at_a⟩
      · exact .inl (off b hb)
    · by_cases hb : b = a
      · subst hb
        rw [at_a] at z; cases z
        exact ⟨hobj, by rw [List.length_map]; exact hl, vs, _, rv, hobj⟩
      · rw [off b hb] at z; cases z
    · by_cases hb : b = a
      · exact hb
      · exact absurd (off b hb) z
end Ol

namespace Ol
open PySem PySem.W PySem.Calls PyProof.Rows L2
/-! ### keywords -/
def perm {α : Type} (is : List Nat) (us ws : List α) : List α := us ++ is.filterMap fun i => ws[i]?
theorem vals_pick {zs : List V} {ws : List Value} (r : Vals zs ws) : ∀ is : List Nat, Vals (is.filterMap fun i => zs[i]?) (is.filterMap fun i => ws[i]?)
  | [] => .nil
  | i :: is => by
    rw [List.filterMap_cons, List.filterMap_cons]
    cases h : zs[i]? with
    | none => rw [r.none_of h]; exact vals_pick r is
    | some v =>
      obtain ⟨u, e, q⟩ := r.get h
      rw [e]
      exact .cons q (vals_pick r is)
theorem Fun.kbn {K : Frag} {x qual : Str} {st : Stmt} {f : Addr} {fd : FuncData} {ps ks : List Str} (F : Fun K x qual st f fd) (n : Nat) (is : List Nat)
    (h : ∀ (kV doc pm : Value) (an : Option Addr) (cdv ct : Value) (us ws : List Value), us.length = n → ws.length = ks.length → bindArgs (PySem.W.fnOf x qual (defArgs st) (defBody st) (defScope st) .none kV doc pm an cdv ct) ⟨us, ks.zip ws⟩ = pure (ps.zip (perm is us ws))) :
    KBn K fd ps n ks (perm is) (perm is) := by
  obtain ⟨oc, od, kV, doc, pm, an, cdv, ct, osl, rfl, lk, hcd⟩ := F.ex
  exact ⟨fun s us ws _ h1 h2 => .of_eq (h kV doc pm an cdv ct us ws h1 h2), fun r1 r2 => r1.append (vals_pick r2 is)⟩
/-- o.m(k = v, ..) -/
def tMethK (C : Addr) (m : Str) (n : Nat) (sp : Sp) (gV : List V → List V → List V) (E : XK) (ta : TE) (tk : TA) : TE := fun σ H Q => ta σ H fun x H1 => ∃ a dx fs, x = .ref a ∧ H1 a = some (.ins C dx fs) ∧ fs.lookup m = none ∧ tk σ H1 fun zs H2 => zs.length = n ∧ sp (gV [x] zs) H2 Q E
section
variable {X : Cx} {CX : CXT} {k n : Nat} {f C : Addr} {fd : FuncData} {ps ks : List Str} {sp : Sp} {E : XK} {x m : Str} {p pos apos : Pos} {o e : Expr} {es : List Expr} {kws : List Keyword} {ta : TE} {t tk : TA} {g : List Value → List Value → List Value} {gV : List V → List V → List V}
  {pins : List (Addr × Obj)} {σ : L2.St} {H : Hp} {s : Shared}
theorem run_kw {Q : VK} {us ws : List Value} {vs zs : List V} (F : FnOk X.prog X.w X.K X.mg X.base CX k f fd ps sp) (hr : Room k X.A) (hb : KBn X.K fd ps n ks g gV) (hx : Passes CX X E)
    (I : Inv X pins σ H s) (r : Vals vs us) (rz : Vals zs ws) (l1 : vs.length = n) (l2 : zs.length = ks.length) (h : sp (gV vs zs) H Q E) : wpAny (model X.prog X.w) X.A (call (.ref f) us (ks.zip ws)) (EP X pins σ Q) X.xe s := by
  refine wpAny_call (codeAny_mono (F.run X.A X.stack s H ⟨us, ks.zip ws⟩ (g us ws) (gV vs zs) Q E hr I.env0 (hb.to s us ws I.kIn (r.length.symm.trans l1) (rz.length.symm.trans l2)) (hb.rel r rz) h) fun r s' hq => ?_)
  cases r with
  | error e => exact hx pins σ H s e s' I hq
  | ok fl =>
    cases fl with
    | ret u => exact I.after hq
    | next => exact False.elim hq
    | brk => exact False.elim hq
    | cont => exact False.elim hq
theorem pe_methK0 {pl : Sem Bool} (he : PE X o ta) (c : Cls X.K C) (hm : Meth X.K C m f) (F : FnOk X.prog X.w X.K X.mg X.base CX k f fd ps sp) (hr : Room k X.A) (hb : KBn X.K fd ps 1 ks g gV) (hx : Passes CX X E) (hkw : PK X kws tk)
    (hall : (backToKw pos (keywordEach kws X.env)).all (·.1.isSome) = true := by rfl) (hks : (backToKw pos (keywordEach kws X.env)).filterMap (·.1) = ks := by rfl)
    (hpl : ((backTo pos (starEach [] X.env)).any (·.1) || (backToKw pos (keywordEach kws X.env)).any (·.1.isNone)) = false := by rfl)
    (ht : eval (.Call (.Attribute o m apos) [] kws pos) X.env = (do
      let ov ← eval o X.env
      standAt apos.atName
      let (f, first) ← holding [ov] (getMethod ov m pl)
      callWith pos f first (backTo pos (starEach [] X.env)) (backToKw pos (keywordEach kws X.env))) := by rfl) :
    PE X (.Call (.Attribute o m apos) [] kws pos) (tMethK C m ks.length sp gV E ta tk) := by
  refine ⟨fun pins s σ H Q I h => ?_⟩
  refine PySem.W.methodCall_KW (pl := pl) (thn (he.run pins s σ H _ I h) fun u s1 ⟨x, H1, I1, rx, a, dx, fs, ex, ea, l, q⟩ => ?_) ht
  subst ex
  cases (show u = Value.ref a from rx)
  refine getmeth_ok I1 ea c hm l ?_
  refine PySem.W.callWith_KW0 (first := [.ref a]) (h₀ := X.base) I.ok.mod.kin hm.kp hall ?_ hpl
  refine thn (hkw.run pos pins s1 σ H1 _ I1 q) fun ws s2 ⟨zs, H2, I2, rz, l2, q2⟩ => ⟨I2.kIn, ?_⟩
  rw [hks]
  exact run_kw (us := [.ref a]) (vs := [.ref a]) F hr hb hx I2 (.cons rfl .nil) rz rfl l2 q2
/-! ### a callee at another depth -/
theorem run_at {A : Around} {Er : Value → Shared → Prop} {Q : VK} {us : List Value} {vs : List V} (F : FnOk X.prog X.w X.K X.mg X.base CX k f fd ps sp) (hr : Room k A) (e0 : Env0 X.prog X.w X.K X.mg X.base A X.stack s H) (hb : Binds X.K fd ps [])
    (hx : ∀ e s', CX X.stack H s E e s' → Er e s') (I : Inv X pins σ H s) (r : Vals vs us) (h : sp vs H Q E) : wpAny (model X.prog X.w) A (call (.ref f) us) (EP X pins σ Q) Er s := by
  have hl : us.length = ps.length := by rw [← r.length]; exact F.len _ _ _ _ h
  have hb' := hb s us I.kIn (by rw [List.append_nil]; exact hl)
  rw [List.append_nil] at hb'
  refine wpAny_call (codeAny_mono (F.run A X.stack s H ⟨us, []⟩ us vs Q E hr e0 hb' r h) fun r s' hq => ?_)
  cases r with
  | error e => exact hx e s' hq
  | ok fl =>
    cases fl with
    | ret u => exact I.after hq
    | next => exact False.elim hq
    | brk => exact False.elim hq
    | cont => exact False.elim hq
/-- str(o), o an instance with its own __str__ -/
def rStrO (C : Addr) (sp : Sp) (E : XK) : List V → Hp → VK → Prop := fun xs H Q => ∃ a dx fs, xs = [.ref a] ∧ H a = some (.ins C dx fs) ∧ sp [.ref a] H (fun v H' => ∃ z, v = .str z ∧ Q (.str z) H') E
theorem call_strO (R : Meth X.K C "__str__" f) (F : FnOk X.prog X.w X.K X.mg X.base CX k f fd ps sp) (hr : Room (k + 2) X.A) (hb : Binds X.K fd ps []) (hx : Passes CX X E) : CallR X (.type "str") (rStrO C sp E) := by
  intro pins s σ H xs us Q I r h
  obtain ⟨a, dx, fs, rfl, ea, q⟩ := h
  obtain ⟨u, rfl, ru⟩ := vals1 r
  cases (show u = Value.ref a from ru)
  obtain ⟨mA, O, _⟩ := ins_get I.hok ea
  obtain ⟨od, J, _⟩ := O.look
  refine kso_call hr.in1.in1.units0 I.kIn J R.at_ R.fn ?_
  refine wpAny_mono (run_at (us := [.ref a]) (vs := [.ref a]) F hr.in1.in1 I.env0.in1.in1 hb (fun e s' => hx pins σ H s e s' I) I (.cons rfl .nil) q) (fun v s' hv => ?_) fun _ _ z => z
  obtain ⟨v', H', I', r', z, rfl, q'⟩ := hv
  obtain ⟨t, rfl⟩ := r'
  exact ⟨.str z, H', I', ⟨t, rfl⟩, q'⟩
/-! ### == where the right one has the method -/
/-- the __eq__ of a built-in type lets an instance be -/
def LetsEq (T id : String) : Prop := ∀ (prog : Program) (w : World) (A : Around) (E : Value → Shared → Prop) (s : Shared) (y : Value) (x C dx : Addr) (Q : Value → Shared → Prop),
  s.TypeIs y T → s.heap.get? x = some (instObj C dx) → Q .notImplemented s → wpAny (model prog w) A (call (.builtin id) [y, .ref x]) Q E s
end
end Ol

namespace Ol
open PySem PySem.W PySem.Calls PyProof.Rows L2
section
variable {prog : Program} {w : World} {A : Around} {E : Value → Shared → Prop} {s : Shared} {x C dx : Addr} {Q : Value → Shared → Prop}
theorem dec_eq_int {i : Int} {t : Tok} (hx : s.heap.get? x = some (instObj C dx)) (h : Q .notImplemented s) : wpAny (model prog w) A (call (.builtin "int.__eq__") [.int i t, .ref x]) Q E s := by
  refine wpAny_call_entry F.slot_int_eq (typeIs_int s i t) F.entry_int_eq ?_ (F.args_int_eq_2 _ _)
  obtain ⟨hp, g, d, tk, os⟩ := s
  unfold Builtin.«int.__eq__»
  wp_walk
  exact ⟨_, rfl, h⟩
theorem dec_eq_str {i : Str} {t : Tok} (hx : s.heap.get? x = some (instObj C dx)) (h : Q .notImplemented s) : wpAny (model prog w) A (call (.builtin "str.__eq__") [.str i t, .ref x]) Q E s := by
  refine wpAny_call_entry F.slot_str_eq (typeIs_str s i t) F.entry_str_eq ?_ (F.args_str_eq_2 _ _)
  obtain ⟨hp, g, d, tk, os⟩ := s
  unfold Builtin.«str.__eq__»
  wp_walk
  exact ⟨_, rfl, h⟩
theorem dec_eq_none (hx : s.heap.get? x = some (instObj C dx)) (h : Q .notImplemented s) : wpAny (model prog w) A (call (.builtin "NoneType.__eq__") [.none, .ref x]) Q E s := by
  refine wpAny_call_entry F.slot_NoneType_eq (show s.TypeIs .none "NoneType" from rfl) F.entry_NoneType_eq ?_ (F.args_NoneType_eq_2 _ _)
  obtain ⟨hp, g, d, tk, os⟩ := s
  unfold Builtin.«NoneType.__eq__»
  wp_walk
  exact ⟨_, rfl, h⟩
theorem dec_eq_list {l : Addr} {o : Obj} {vs : Array Value} {n : Nat} (hl : s.heap.get? l = some o) (hc : o.cls = .type "list") (hd : o.data = .seq vs n) (hx : s.heap.get? x = some (instObj C dx)) (hsub : Looks (model prog w) s.heap (isSubtype (.ref C) (.type "list")) false) (h : Q .notImplemented s) : wpAny (model prog w) A (call (.builtin "list.__eq__") [.ref l, .ref x]) Q E s := by
  refine wpAny_call_entry F.slot_list_eq (show s.TypeIs (.ref l) "list" from ⟨o, hl, hc⟩) F.entry_list_eq ?_ (F.args_list_eq_2 _ _)
  obtain ⟨hp, g, d, tk, os⟩ := s
  obtain ⟨c, dd, da, sl⟩ := o
  cases hc
  cases hd
  unfold Builtin.«list.__eq__»
  wp_walk
  refine hsub.at ?_
  wp_walk
  exact ⟨_, rfl, h⟩
theorem dec_eq_tuple {l : Addr} {o : Obj} {vs : Array Value} {n : Nat} (hl : s.heap.get? l = some o) (hc : o.cls = .type "tuple") (hd : o.data = .seq vs n) (hx : s.heap.get? x = some (instObj C dx)) (hsub : Looks (model prog w) s.heap (isSubtype (.ref C) (.type "tuple")) false) (h : Q .notImplemented s) : wpAny (model prog w) A (call (.builtin "tuple.__eq__") [.ref l, .ref x]) Q E s := by
  refine wpAny_call_entry F.slot_tuple_eq (show s.TypeIs (.ref l) "tuple" from ⟨o, hl, hc⟩) F.entry_tuple_eq ?_ (F.args_tuple_eq_2 _ _)
  obtain ⟨hp, g, d, tk, os⟩ := s
  obtain ⟨c, dd, da, sl⟩ := o
  cases hc
  cases hd
  unfold Builtin.«tuple.__eq__»
  wp_walk
  refine hsub.at ?_
  wp_walk
  exact ⟨_, rfl, h⟩
/-- y == x, y of a built-in type that lets x be, x an instance with the method f -/
theorem eq_right {K : Frag} {f : Addr} {ox : Obj} {od : Option Obj} {y : Value} {T id : String} (hu : A.units < cLine) (X : K.In s.heap) (I : InstAt s.heap x ox C od) (hy : s.TypeIs y T) (hty : Looks (model prog w) s.heap (typeOf y) (.type T)) (ho : oneThing? .Eq y (.ref x) = none) (sl : Slot T (cmpInfo .Eq).2.1 id)
    (dec : ∀ Q' : Value → Shared → Prop, Q' .notImplemented s → wpAny (model prog w) A (call (.builtin id) [y, .ref x]) Q' E s) (hsub : subIn K (.ref C) (.type T) = some false) (at_ : findIn K (.ref C) "__eq__" = some (some (.ref f))) (hf : isFn K (.ref f) = true)
    (h : wpAny (model prog w) A (call (.ref f) [.ref x, y]) (W.CmpBack Q) E s) : wpAny (model prog w) A (richCompare .Eq y (.ref x)) Q E s := by
  have one : wpAny (model prog w) A (tryCompare (.ref x) "__eq__" y) (fun r s' => ∃ v, r = some v ∧ Q v s') E s := by
    unfold tryCompare
    refine wpAny_bind (ifBound_K X I at_ hf (wpAny_mono h (fun v s' hv => ?_) fun _ _ e => e))
    cases v <;> first | exact hv.elim | exact wpAny_pure ⟨_, rfl, hv⟩
  unfold richCompare
  simp only [ho]
  refine wpAny_holding (wpAny_bind (wpAny_cRoomFor hu ?_))
  refine wpAny_bind (hty.here (wpAny_bind (I.type.here ?_)))
  rw [if_pos (show (Value.type T != Value.ref C) = true by simp)]
  refine wpAny_bind ((looks_subIn X hsub).here ?_)
  simp only [Bool.false_eq_true, if_false]
  refine wpAny_bind (wpAny_tryCompare_declines hy sl (dec _ ⟨rfl, ?_⟩))
  simp only [Bool.not_false, if_true]
  refine wpAny_bind (wpAny_mono one (fun r s' z => ?_) fun _ _ e => e)
  obtain ⟨v, rfl, hq⟩ := z
  exact wpAny_pure hq
/-- what x == y and x in [..] ask of an instance beside a built-in value -/
inductive EqBy (K : Frag) (C : Addr) (H : Hp) : V → Prop where
  | int (i : Int) (h : subIn K (.ref C) (.type "int") = some false) : EqBy K C H (.int i)
  | str (z : Str) (h : subIn K (.ref C) (.type "str") = some false) : EqBy K C H (.str z)
  | non (h : subIn K (.ref C) (.type "NoneType") = some false) : EqBy K C H .non
  | lst {a : Addr} {xs : List V} (e : H a = some (.lst xs)) (h : subIn K (.ref C) (.type "list") = some false) : EqBy K C H (.ref a)
  | tup {a : Addr} {xs : List V} (e : H a = some (.tup xs)) (h : subIn K (.ref C) (.type "tuple") = some false) : EqBy K C H (.ref a)
theorem EqBy.same {K : Frag} {H H' : Hp} {v : V} (e : EqBy K C H v) (s : Same H H') : EqBy K C H' v := by
  cases e with
  | int i h => exact .int i h
  | str z h => exact .str z h
  | non h => exact .non h
  | lst e h => exact .lst (s _ _ e) h
  | tup e h => exact .tup (s _ _ e) h
end
section
variable {X : Cx} {CX : CXT} {k : Nat} {C f a dx : Addr} {fs : List (Str × V)} {fd : FuncData} {ps : List Str} {sp : Sp} {E : XK} {pins : List (Addr × Obj)} {σ : L2.St} {H : Hp} {s : Shared}
/-- y == o by the __eq__ of o -/
theorem rich_right {A : Around} {Er : Value → Shared → Prop} {y : V} {u : Value} {Q : VK} (at_ : findIn X.K (.ref C) "__eq__" = some (some (.ref f))) (hfn : isFn X.K (.ref f) = true) (Fn : FnOk X.prog X.w X.K X.mg X.base CX k f fd ps sp) (hr : Room k A) (e0 : Env0 X.prog X.w X.K X.mg X.base A X.stack s H)
    (hb : Binds X.K fd ps []) (hx : ∀ e s', CX X.stack H s E e s' → Er e s') (I : Inv X pins σ H s) (ea : H a = some (.ins C dx fs)) (ry : RelV y u) (ey : EqBy X.K C H y) (h : sp [.ref a, y] H Q E) :
    wpAny (model X.prog X.w) A (richCompare .Eq u (.ref a)) (EP X pins σ Q) Er s := by
  obtain ⟨mA, O, _⟩ := ins_get I.hok ea
  obtain ⟨od, J, _⟩ := O.look
  have run : wpAny (model X.prog X.w) A (call (.ref f) [.ref a, u]) (W.CmpBack (EP X pins σ Q)) Er s :=
    wpAny_mono (run_at (us := [.ref a, u]) (vs := [.ref a, y]) Fn hr e0 hb hx I (.cons rfl (.cons ry .nil)) h) (fun _ _ z => back_ep z) fun _ _ z => z
  cases ey with
  | int i hs =>
    obtain ⟨t, rfl⟩ := ry
    exact eq_right hr.units0 I.kIn J (typeIs_int s i t) (.of_pure rfl) rfl F.slot_int_eq (fun _ q => dec_eq_int O.obj q) hs at_ hfn run
  | str z hs =>
    obtain ⟨t, rfl⟩ := ry
    exact eq_right hr.units0 I.kIn J (typeIs_str s z t) (.of_pure rfl) rfl F.slot_str_eq (fun _ q => dec_eq_str O.obj q) hs at_ hfn run
  | non hs =>
    cases (show u = Value.none from ry)
    exact eq_right hr.units0 I.kIn J (show s.TypeIs .none "NoneType" from rfl) (.of_pure rfl) rfl F.slot_NoneType_eq (fun _ q => dec_eq_none O.obj q) hs at_ hfn run
  | @lst l xs el hs =>
    cases (show u = Value.ref l from ry)
    obtain ⟨_, _, n, _, h1⟩ := (show ObjOk X.prog X.w H s.heap l (.lst xs) from I.hok l _ el)
    exact eq_right hr.units0 I.kIn J (show s.TypeIs (.ref l) "list" from ⟨_, h1, rfl⟩) (looks_ty (x := .ref l) I rfl (.base (.lst el))) rfl F.slot_list_eq (fun _ q => dec_eq_list h1 rfl rfl O.obj (looks_subIn I.kIn hs) q) hs at_ hfn run
  | @tup l xs el hs =>
    cases (show u = Value.ref l from ry)
    obtain ⟨_, _, _, o, h1, h2, n, h3⟩ := (show ObjOk X.prog X.w H s.heap l (.tup xs) from I.hok l _ el)
    exact eq_right hr.units0 I.kIn J (show s.TypeIs (.ref l) "tuple" from ⟨_, h1, h2⟩) (looks_ty (x := .ref l) I rfl (.base (.tup el))) rfl F.slot_tuple_eq (fun _ q => dec_eq_tuple h1 h2 h3 O.obj (looks_subIn I.kIn hs) q) hs at_ hfn run
end
end Ol

namespace Ol
open PySem PySem.W PySem.Calls PyProof.Rows L2
open AutoSeq1 (wpAny_loadPart')
open MeetsSeq MeetsSeq2 MeetsSeq3 SeqRoads2
section
variable {prog : Program} {w : World}
/-- x in a list none of whose items is equal to x, where == runs own code -/
theorem contains_loopJ (l : Addr) (items : Array Value) (n : Nat) (dd : Option Addr) (sl : Array (Option Value)) (x : Value) (A : Around) (R : Result → Shared → Prop) (J : Shared → Prop)
    (hl : ∀ s, J s → s.heap.get? l = some { cls := .type "list", dict := dd, data := .seq items n, slots := sl })
    (he : ∀ y, y ∈ items → ∀ s, J s → ∀ Q : Bool → Shared → Prop, (∀ s', J s' → Q false s') → wpAny (model prog w) A.in1 (eqBool y x) Q (fun e s' => R (.error e) s') s)
    (hR : ∀ s, J s → R (.ok (.ret (.bool false))) s) (k : Nat) :
    ∀ i : Nat, items.size - i = k → ∀ s, J s → wpAny (model prog w) A.in1 (Builtin.«list.__contains__.loop» ⟨[.ref l, x, rawInt i], []⟩) (fun fin s' => match fin with | .done f => R (.ok f) s' | .again c' => c'.quiet = true ∧ codeAny (model prog w) A c' R s') (fun e s' => R (.error e) s') s := by
  induction k with
  | zero =>
    intro i hk s h
    have hl' := hl s h
    have hr := hR s h
    obtain ⟨hp, g, d, tk, os⟩ := s
    wp_walk using wpAny_loadPart' hl'
    have hi : items[((i : Nat) : Int).toNat]? = none := by simp; omega
    rw [hi]
    wp_walk
    exact hr
  | succ k ih =>
    intro i hk s h
    have hl' := hl s h
    have he' : ∀ y, y ∈ items → ∀ Q : Bool → Shared → Prop, (∀ s', J s' → Q false s') → wpAny (model prog w) A.in1 (eqBool y x) Q (fun e s' => R (.error e) s') s := fun y hy => he y hy s h
    obtain ⟨hp, g, d, tk, os⟩ := s
    wp_walk using wpAny_loadPart' hl'
    have hlt : i < items.size := by omega
    have hi : items[((i : Nat) : Int).toNat]? = some items[i] := by simp [hlt]
    rw [hi]
    refine wpAny_bind (he' _ (Array.getElem_mem hlt) _ fun s' h' => ?_)
    obtain ⟨hp, g, d, tk, os⟩ := s'
    have hc : ((i : Int) + 1) = ((i + 1 : Nat) : Int) := by push_cast; rfl
    wp_walk
    rw [hc]
    exact ⟨plainId_quiet plain_contains_loop _, codeAny_builtin entry_contains_loop (by
      rw [Around.under_plainId plain_contains_loop _]
      exact ih (i + 1) (by omega) _ h')⟩
theorem in_listJ {l : Addr} {items : Array Value} {n : Nat} {dd : Option Addr} {sl : Array (Option Value)} {x : Value} {A : Around} {E : Value → Shared → Prop} {Q : Value → Shared → Prop} {s : Shared} (J : Shared → Prop) (h : J s)
    (hl : ∀ s, J s → s.heap.get? l = some { cls := .type "list", dict := dd, data := .seq items n, slots := sl })
    (he : ∀ y, y ∈ items → ∀ s, J s → ∀ Q : Bool → Shared → Prop, (∀ s', J s' → Q false s') → wpAny (model prog w) A.in1 (eqBool y x) Q E s)
    (hq : ∀ s, J s → Q (.bool false) s) : wpAny (model prog w) A (compareOp .In x (.ref l)) Q E s := by
  show wpAny _ _ (do return .bool (← contains (.ref l) x)) Q E s
  refine wpAny_bind (wpAny_contains_slot ⟨_, hl s h, rfl⟩ F.slot_list_contains ?_)
  refine wpAny_call (codeAny_call_builtin F.slot_list_contains.plain F.entry_list_contains (F.slot_list_contains.check _ _ _ _ _ _ _ _ ⟨_, hl s h, rfl⟩ (F.args_list_contains_2 _ _) ?_))
  have hl' := hl s h
  have go := contains_loopJ (prog := prog) (w := w) l items n dd sl x A (wants (fun r s' => wpAny (model prog w) A (truthy r) (fun a s' => wpAny (model prog w) A (pure (Value.bool a)) Q E s') E s') E) J hl he (fun s h => wpAny_truthy_bool (wpAny_pure (hq s h))) _ 0 rfl s h
  obtain ⟨hp, g, d, tk, os⟩ := s
  wp_walk using wpAny_loadPart' hl'
  exact ⟨plainId_quiet plain_contains_loop _, codeAny_builtin entry_contains_loop (by
    rw [Around.under_plainId plain_contains_loop _]
    exact go)⟩
end
section
variable {X : Cx} {CX : CXT} {k : Nat} {C f a dx : Addr} {fs : List (Str × V)} {fd : FuncData} {ps : List Str} {sp : Sp} {E : XK} {pins : List (Addr × Obj)} {σ : L2.St} {H : Hp} {s : Shared}
theorem vals_mem {xs : List V} {us : List Value} (r : Vals xs us) : ∀ y ∈ us, ∃ z ∈ xs, RelV z y := by
  induction r with
  | nil => intro y hy; cases hy
  | cons r t ih =>
    intro y hy
    rcases List.mem_cons.mp hy with rfl | hy
    · exact ⟨_, List.mem_cons_self, r⟩
    · obtain ⟨z, h1, h2⟩ := ih y hy
      exact ⟨z, List.mem_cons_of_mem _ h1, h2⟩
/-- x in a list of built-in values, x an instance; its __eq__ says False of each and leaves the heap -/
def rInNo (K : Frag) (C : Addr) (sp : Sp) (E : XK) : R2 := fun x y H Q => ∃ a l xs, x = .ref a ∧ y = .ref l ∧ H l = some (.lst xs) ∧
  (∀ od, ∀ z ∈ xs, EqBy K C (upd H l (.frz od (.lst xs))) z ∧ z ≠ .ref a ∧ (∃ dx fs, upd H l (.frz od (.lst xs)) a = some (.ins C dx fs)) ∧ ∀ Q' : VK, Q' (.bl false) (upd H l (.frz od (.lst xs))) → sp [.ref a, z] (upd H l (.frz od (.lst xs))) Q' E) ∧ Q (.bl false) H
theorem op_inNo (at_ : findIn X.K (.ref C) "__eq__" = some (some (.ref f))) (hfn : isFn X.K (.ref f) = true) (Fn : FnOk X.prog X.w X.K X.mg X.base CX k f fd ps sp) (hr : Room (k + 1) X.A)
    (hb : Binds X.K fd ps []) (hx : Passes CX X E) : OpR X (compareOp .In) (rInNo X.K C sp E) := by
  intro pins s σ H x y v u Q I rx ry h
  obtain ⟨a, l, xs, rfl, rfl, el, hz, q⟩ := h
  cases (show v = Value.ref a from rx)
  cases (show u = Value.ref l from ry)
  have nf := I.nofrz el (by trivial)
  obtain ⟨od, I1⟩ := I.lock el (by trivial)
  have hz := hz od
  have e1 : upd H l (.frz od (.lst xs)) l = some (.frz od (.lst xs)) := upd_same
  have back : ∀ s', Inv X pins σ (upd H l (.frz od (.lst xs))) s' → Inv X pins σ H s' := fun s' I' => by
    have z := I'.unlock e1 nf
    have e : upd (upd H l (.frz od (.lst xs))) l (.lst xs) = H := by
      funext b
      by_cases hb : b = l
      · subst hb; rw [upd_same, el]
      · rw [upd_ne hb, upd_ne hb]
    rwa [e] at z
  obtain ⟨ho, _, us, n, r, h1⟩ := (show ObjOk X.prog X.w _ s.heap l (.frz od (.lst xs)) from I1.hok l _ e1)
  have hod := Option.some.inj (ho.symm.trans h1)
  refine in_listJ (items := us.toArray) (n := n) (dd := none) (sl := #[]) (fun s' => Inv X pins σ (upd H l (.frz od (.lst xs))) s') I1 (fun s' J => ?_) (fun y hy s' J Q' hq => ?_) fun s' J => ⟨.bl false, H, back s' J, rfl, q⟩
  · rw [← hod]
    exact (show ObjOk X.prog X.w _ s'.heap l (.frz od (.lst xs)) from J.hok l _ e1).1
  · obtain ⟨z, hz1, ry⟩ := vals_mem r y (by simpa using hy)
    obtain ⟨by1, ne, ⟨dx, fs, ea⟩, hsp⟩ := hz z hz1
    have hne : (y == Value.ref a) = false := Bool.eq_false_iff.mpr fun e => by
      cases beq_iff_eq.mp e
      cases z with
      | ref b => cases (show Value.ref a = Value.ref b from ry); exact ne rfl
      | _ => first | (obtain ⟨t, e⟩ := ry; cases e) | cases ry
    unfold eqBool
    refine wpAny_holding ?_
    rw [hne]
    simp only [Bool.false_eq_true, if_false]
    have go := rich_right (Er := X.xe) at_ hfn Fn hr.in1 J.env0.in1 hb (fun e s'' => hx pins σ _ s' e s'' J) J ea ry by1 (Q := fun v H' => v = .bl false ∧ H' = upd H l (.frz od (.lst xs))) (hsp _ ⟨rfl, rfl⟩)
    have fin : wpAny (model X.prog X.w) X.A.in1 (richCompare .Eq y (.ref a) >>= truthOfDropped) Q' X.xe s' := by
      refine wpAny_bind (wpAny_mono go (fun v s'' hv => ?_) fun _ _ z => z)
      obtain ⟨v', H', I', r', rfl, rfl⟩ := hv
      cases (show v = Value.bool false from r')
      exact wpAny_truthy_bool (hq _ I')
    cases y <;> exact fin
end
end Ol

namespace Ol
open PySem PySem.Spec PyProof.Rows L2
def spDayEq2 (K : PySem.W.Frag) (C : Addr) : Sp := fun vs H Q _ => ∃ (a : Addr) (y : V) (L : Int), vs = [.ref a, y] ∧ DayAt C H a L ∧ ((∃ (b : Addr) (M : Int), y = .ref b ∧ DayAt C H b M ∧ Q (.bl (decide (L = M))) H) ∨ (∃ t, TyX K H y t ∧ PySem.W.kitOne K t (.ref C) = some false ∧ Q (.bl false) H))
def spDayIn (K : PySem.W.Frag) (C : Addr) : Sp := fun vs H Q _ => ∃ (a : Addr) (x : V) (L : Int), vs = [.ref a, x] ∧ DayAt C H a L ∧ ((∃ i, x = .int i ∧ Q (.bl (decide (0 ≤ i ∧ i ≤ L - 1))) H) ∨ (NoInt K H x ∧ Q (.bl false) H))
def spDayStr (C : Addr) : Sp := fun vs H Q _ => ∃ (a : Addr) (L : Int), vs = [.ref a] ∧ DayAt C H a L ∧ Q (.str (toString L)) H
section
variable {K : PySem.W.Frag} {C a b : Addr} {H : Hp} {Q : VK} {E : XK} {L M m n k : Int} {R : Prop} {x : V}
theorem r_deq2 (I : IsC K C) (d : DayAt C H a L) (e : DayAt C H b M) (q : Q (.bl (decide (L = M))) H) : rCmpO K C (spDayEq2 K C) E (.ref a) (.ref b) H Q := by
  obtain ⟨_, dx, h⟩ := id d
  obtain ⟨_, dy, h2⟩ := id e
  exact ⟨a, dx, _, _, rfl, h, I.ty h2, notFirst_self, a, _, L, rfl, d, .inl ⟨b, M, rfl, e, q⟩⟩
theorem r_dne2 (I : IsC K C) (d : DayAt C H a L) (e : DayAt C H b M) (q : Q (.bl (!decide (L = M))) H) : rNeO K C (spDayEq2 K C) E (.ref a) (.ref b) H Q := by
  obtain ⟨_, dx, h⟩ := id d
  obtain ⟨_, dy, h2⟩ := id e
  exact ⟨a, dx, _, _, rfl, h, I.ty h2, notFirst_self, a, _, L, rfl, d, .inl ⟨b, M, rfl, e, _, rfl, q⟩⟩
theorem r_din {g : Bool → Bool} {i : Int} (d : DayAt C H a L) (q : Q (.bl (g (decide (0 ≤ i ∧ i ≤ L - 1)))) H) : rInO C (spDayIn K C) E g (.int i) (.ref a) H Q := by
  obtain ⟨_, dx, h⟩ := id d
  exact ⟨a, dx, _, rfl, h, a, _, L, rfl, d, .inl ⟨i, rfl, _, rfl, q⟩⟩
theorem r_dinN {g : Bool → Bool} (d : DayAt C H a L) (n : NoInt K H x) (q : Q (.bl (g false)) H) : rInO C (spDayIn K C) E g x (.ref a) H Q := by
  obtain ⟨_, dx, h⟩ := id d
  exact ⟨a, dx, _, rfl, h, a, _, L, rfl, d, .inr ⟨n, _, rfl, q⟩⟩
theorem r_dstr (d : DayAt C H a L) (q : Q (.str (toString L)) H) : rStrO C (spDayStr C) E [.ref a] H Q := by
  obtain ⟨_, dx, h⟩ := id d
  exact ⟨a, dx, _, rfl, h, a, L, rfl, d, _, rfl, q⟩
theorem r_cat {l b : Addr} {xs zs : List V} (h1 : H l = some (.lst xs)) (h2 : H b = some (.lst zs)) (hz : Nat.ble (xs.length + zs.length) 1000 = true) (q : ∀ p, H p = none → Q (.ref p) (upd H p (.lst (xs ++ zs)))) : rCat (.ref l) (.ref b) H Q :=
  ⟨l, b, xs, zs, rfl, rfl, h1, h2, Nat.le_trans (Nat.le_of_ble_eq_true hz) (by decide), q⟩
theorem Fun.okN {P : Program} {w : World} {mg : Str → Option Value} {base : Heap} {x qual : Str} {st : Stmt} {f : Addr} {fd : FuncData} {N ps : List Str} {k : Nat} {sp : Sp} (F : Fun K x qual st f fd) (S : FnScope N ps (defScope st)) (len : ∀ vs H Q E, sp vs H Q E → vs.length = ps.length)
    (hbody : ∀ (cdv : Value) (A : Around) (outer : List Env) (s : Shared) (H : Hp) (vs : List V) (Q : VK) (E : XK), (A.deeper (envOfC qual (defScope st) s.heap.objs.size f cdv)).guards = some [] → Room k (A.deeper (envOfC qual (defScope st) s.heap.objs.size f cdv)) → sp vs H Q E →
      ∃ t, PSs (cxOf CX0 P w K mg base N qual (defScope st) f cdv A outer s H E).nox (defBody st) t ∧ t { nx := fun _ H' => Q .non H', rt := Q } (L2.start N vs) H) : FnG P w K mg base CX0 (k + 1) f fd ps sp :=
  Fun.okG F S len fun cdv A outer s H vs Q E hg hr hsp => let ⟨t, h, q⟩ := hbody cdv A outer s H vs Q E hg hr hsp; ⟨t, h.nox, q⟩
/-! ### values that are no ints -/
theorem NoInt.non : NoInt K H .non := ⟨_, _, .base .non, kit_ty (r := false) (by decide +kernel), fun z => by cases z⟩
theorem NoInt.bl (b : Bool) : NoInt K H (.bl b) := ⟨_, _, .base (.bl b), kit_bool_int, fun _ => kit_bool_bool⟩
theorem NoInt.str (z : Str) : NoInt K H (.str z) := ⟨_, _, .base (.str z), kit_ty (r := false) (by decide +kernel), fun z => by cases z⟩
theorem NoInt.lst {xs : List V} (h : H a = some (.lst xs)) : NoInt K H (.ref a) := ⟨_, _, .base (.lst h), kit_ty (r := false) (by decide +kernel), fun z => by cases z⟩
theorem NoInt.tup {xs : List V} (h : H a = some (.tup xs)) : NoInt K H (.ref a) := ⟨_, _, .base (.tup h), kit_ty (r := false) (by decide +kernel), fun z => by cases z⟩
theorem NoInt.dK {kvs : List (Key × V)} (h : H a = some (.dK kvs)) : NoInt K H (.ref a) := ⟨_, _, .base (.dK h), kit_ty (r := false) (by decide +kernel), fun z => by cases z⟩
theorem NoInt.own {dx : Addr} {fs : List (Str × V)} (I : IsC K C) (hk : PySem.W.kitOne K (.ref C) (.type "int") = some false) (h : H a = some (.ins C dx fs)) : NoInt K H (.ref a) := ⟨_, _, I.ty h, hk, fun z => by cases z⟩
end
end Ol

namespace Ol
open PySem PySem.Spec PyProof.Rows L2
section
variable {K : PySem.W.Frag} {σ : L2.St} {H : Hp} {Q : VK} {ta tb tc te : TE} {t u : TT} {ts us : TS} {tr tk : TA} {D : Ends} {v x y : V} {i j : Int} {C : Addr} {E : XK} {sp : Sp} {n m : Nat} {gV : List V → List V → List V}
theorem t_methK {f : Str} (h : ta σ H fun x H1 => ∃ a dx fs, x = .ref a ∧ H1 a = some (.ins C dx fs) ∧ fs.lookup f = none ∧ tk σ H1 fun zs H2 => zs.length = n ∧ sp (gV [x] zs) H2 Q E) : tMethK C f n sp gV E ta tk σ H Q := h
theorem t_makeK (h : tr σ H fun vs H1 => tk σ H1 fun zs H2 => vs.length = n ∧ zs.length = m ∧ ∀ x dx, H2 x = none → H2 dx = none → dx ≠ x → sp (gV (.ref x :: vs) zs) (upd (upd H2 dx (.own x)) x (.ins C dx [])) (fun v H3 => v = .non ∧ Q (.ref x) H3) E) : tMakeK C n m sp gV E tr tk σ H Q := h
theorem t_cval {f : Str} (h : ta σ H fun x H1 => ∃ C mc v u, x = .ref C ∧ ClX.CRead K C mc ∧ ClX.CVal K C mc f v u ∧ Q v H1) : ClX.tCVal K ta f σ H Q := h
theorem r_eqS1 {a b : Str} (h : a = b) (q : Q (.bl true) H) : rEq (.str a) (.str b) H Q := r_eqS (by rw [decide_eq_true h]; exact q)
theorem r_neS1 {a b : Str} (h : a = b) (q : Q (.bl false) H) : rNe (.str a) (.str b) H Q := r_neS (by rw [decide_eq_true h]; exact q)
theorem r_eqSame {d : PyData} (h1 : Dp K H x d) (h2 : Dp K H y d) (hs : SeqAt.shaped d = true) (q : Q (.bl true) H) : rEqD K x y H Q :=
  ⟨d, d, h1, h2, hs, hs, by rw [SeqAt.eqv_refl d (SeqAt.canLay_of_shaped hs)]; exact q⟩
theorem r_neSame {d : PyData} (h1 : Dp K H x d) (h2 : Dp K H y d) (hs : SeqAt.shaped d = true) (q : Q (.bl false) H) : rNeD K x y H Q :=
  ⟨d, d, h1, h2, hs, hs, by rw [SeqAt.eqv_refl d (SeqAt.canLay_of_shaped hs)]; exact q⟩
theorem eqv_ints : ∀ ns ms : List Int, PyData.eqvAll (ns.map PyData.int) (ms.map PyData.int) = decide (ns = ms)
  | [], [] => by simp [PyData.eqvAll]
  | [], _ :: _ => by simp [PyData.eqvAll]
  | _ :: _, [] => by simp [PyData.eqvAll]
  | a :: r, b :: s => by
    rw [List.map_cons, List.map_cons, PyData.eqvAll, PyData.eqv, eqv_ints r s]
    by_cases h1 : a = b <;> by_cases h2 : r = s <;> simp [h1, h2]
theorem r_eqInts {p q : Addr} {ns ms : List Int} (h1 : SqL K H p (ns.map V.int)) (h2 : SqL K H q (ms.map V.int)) (h : Q (.bl (decide (ns = ms))) H) : rEqD K (.ref p) (.ref q) H Q :=
  ⟨_, _, .lst h1 (dpAll_ints ns), .lst h2 (dpAll_ints ms), PySem.W.ke_shaped_ints ns, PySem.W.ke_shaped_ints ms, by rw [PyData.eqv, eqv_ints]; exact h⟩
theorem r_neInts {p q : Addr} {ns ms : List Int} (h1 : SqL K H p (ns.map V.int)) (h2 : SqL K H q (ms.map V.int)) (h : Q (.bl (!decide (ns = ms))) H) : rNeD K (.ref p) (.ref q) H Q :=
  ⟨_, _, .lst h1 (dpAll_ints ns), .lst h2 (dpAll_ints ms), PySem.W.ke_shaped_ints ns, PySem.W.ke_shaped_ints ms, by rw [PyData.eqv, eqv_ints]; exact h⟩
theorem r_reprI (h : i.natAbs < 10 ^ 75) (q : Q (.str (PyData.int i).shown) H) : rRepr K [.int i] H Q := ⟨_, _, 76, rfl, .int i, (Sh.int h).le (by decide) (by decide), by decide, q⟩
theorem r_reprL2 {z : Addr} (hz : SqL K H z [.int i, .int j]) (h1 : i.natAbs < 10 ^ 75) (h2 : j.natAbs < 10 ^ 75) (q : Q (.str (PyData.list [.int i, .int j]).shown) H) : rRepr K [.ref z] H Q :=
  ⟨_, _, _, rfl, .lst hz (.cons (.int i) (.cons (.int j) .nil)), (Sh.list (n := 76) (k := 0) fun d hd => by
    rcases List.mem_cons.mp hd with rfl | hd
    · exact Sh.int h1
    · cases List.mem_singleton.mp hd; exact Sh.int h2).le (m := 200) (show 2 * 76 + 2 * 2 + 3 ≤ 200 by decide) (by decide), by decide, q⟩
theorem if_mk {b : Bool} (R : V → Hp → Prop) (h1 : b = true → ∀ Q : VK, (∀ v H', R v H' → Q v H') → ta σ H Q) (h2 : b = false → ∀ Q : VK, (∀ v H', R v H' → Q v H') → tb σ H Q) (h : ∀ v H', R v H' → Q v H') : if b = true then ta σ H Q else tb σ H Q := by
  cases b with
  | true => exact h1 rfl Q h
  | false => exact h2 rfl Q h
theorem strOk_of (z : String) : PyData.strOk (Str.ofString z) = true := by
  rw [Str.ofString_eq_toList]
  unfold PyData.strOk
  rw [Array.all_eq_true']
  intro a ha
  simp only [List.mem_toArray, List.mem_map] at ha
  obtain ⟨c, _, rfl⟩ := ha
  have := c.valid
  refine decide_eq_true ?_
  rcases c.valid with h | h
  · have h' : c.toNat < 0xd800 := h
    omega
  · have h' : c.toNat < 0x110000 := h.2
    omega
/-! ### comprehensions -/
def LcW (J : L2.It) (g : TG) (tt : TT) (te : TE) (vs : List Nat) (σ : L2.St) (H1 : Hp) (D : Addr) (Q : VK) : Prop := ∃ W : Nat → Nat → Hp → Prop, (∃ m, W 0 m (upd H1 D (.lst []))) ∧ ∀ i m H, W i m H →
  (J.stop i H ∧ Q (.ref D) H) ∨ (J.go i H ∧ ∃ Nx : Hp → Prop, (∀ H', Nx H' → ∃ m', m' < m ∧ W (i + 1) m' H') ∧ ∀ x H', J.yld i H x H' → g x (wipe σ vs) H' fun σ2 H2 => wipe σ2 vs = wipe σ vs ∧ tt σ2 H2 fun b H3 =>
    if b = true then te σ2 H3 fun y H4 => ∃ acc, H4 D = some (.lst acc) ∧ acc.length < sizeLine ∧ Nx (upd H4 D (.lst (acc ++ [y]))) else Nx H3)
section
variable {g : TG} {vs : List Nat}
theorem t_lcT (h : ta σ H fun x H1 => ∃ a, x = .ref a ∧ (∃ xs, SqT K H1 a xs) ∧ ∀ D, H1 D = none → LcW (Itt K a) g t te vs σ H1 D Q) : tLc (iTup K ta) g t te vs σ H Q := h
theorem t_lcL (h : ta σ H fun x H1 => ∃ a, x = .ref a ∧ (∃ xs, SqL K H1 a xs) ∧ ∀ D, H1 D = none → LcW (Itl K a) g t te vs σ H1 D Q) : tLc (iList K ta) g t te vs σ H Q := h
theorem t_lcR (h : tr σ H fun ws H1 => ∃ j : Int, ws = [.int j] ∧ -(2 ^ 62) ≤ j ∧ j < 2 ^ 62 ∧ ∀ D, H1 D = none → LcW (Itr 0 j.toNat) g t te vs σ H1 D Q) : tLc (iRng1 tr) g t te vs σ H Q := h
/-- no item is kept, the tests leave the heap -/
theorem lcT_no {a : Addr} {xs : List V} {D : Addr} (hs : SqT K (upd H D (.lst [])) a xs) (ht : ∀ x ∈ xs, ∀ R : L2.St → Bool → Hp → Prop, (∀ σ2, R σ2 false (upd H D (.lst []))) → g x (wipe σ vs) (upd H D (.lst [])) fun σ2 H2 => wipe σ2 vs = wipe σ vs ∧ t σ2 H2 (R σ2)) (q : Q (.ref D) (upd H D (.lst []))) :
    LcW (Itt K a) g t te vs σ H D Q := by
  refine lc_tup (Qd := fun H' => Q (.ref D) H') (xs := xs) (fun _ H' => H' = upd H D (.lst [])) rfl (fun i H' _ e => e ▸ hs) (fun i x H' hx e => ?_) fun H' e => e ▸ q
  subst e
  refine ht x (List.mem_of_getElem? hx) (fun σ2 b H3 => if b = true then te σ2 H3 fun y H4 => ∃ acc, H4 D = some (.lst acc) ∧ acc.length < sizeLine ∧ upd H4 D (.lst (acc ++ [y])) = upd H D (.lst []) else H3 = upd H D (.lst [])) fun σ2 => ?_
  exact iteF rfl
theorem lcL_no {a : Addr} {xs : List V} {D : Addr} (hs : SqL K (upd H D (.lst [])) a xs) (ht : ∀ x ∈ xs, ∀ R : L2.St → Bool → Hp → Prop, (∀ σ2, R σ2 false (upd H D (.lst []))) → g x (wipe σ vs) (upd H D (.lst [])) fun σ2 H2 => wipe σ2 vs = wipe σ vs ∧ t σ2 H2 (R σ2)) (q : Q (.ref D) (upd H D (.lst []))) :
    LcW (Itl K a) g t te vs σ H D Q := by
  refine lc_list (Qd := fun H' => Q (.ref D) H') (xs := xs) (fun _ H' => H' = upd H D (.lst [])) rfl (fun i H' _ e => e ▸ hs) (fun i x H' hx e => ?_) fun H' e => e ▸ q
  subst e
  refine ht x (List.mem_of_getElem? hx) (fun σ2 b H3 => if b = true then te σ2 H3 fun y H4 => ∃ acc, H4 D = some (.lst acc) ∧ acc.length < sizeLine ∧ upd H4 D (.lst (acc ++ [y])) = upd H D (.lst []) else H3 = upd H D (.lst [])) fun σ2 => ?_
  exact iteF rfl
end
end
end Ol

namespace Ol
open PySem PySem.W PySem.Spec PySem.Calls PyProof.Rows L2
/-! ### a method that closes over __class__ -/
structure FunS (P : Program) (K : Frag) (x qual : Str) (st : Stmt) (f : Addr) (fd : FuncData) (D : Addr) : Prop where
  ex : ∃ (oc : Value) (od : Option Addr) (kV doc pm : Value) (an : Option Addr) (cda : Addr) (ct : Value) (osl : Array (Option Value)) (cc : Addr),
    fd = ksFn x qual (defArgs st) (defBody st) (defScope st) .none kV doc pm an (.ref cda) ct cc ∧ K.lookup f = some ⟨oc, od, .func fd, osl⟩ ∧ codeIn K (.ref cda) qual = true ∧
    (∃ (cl : Value) (cld : Option Addr) (csl : Array (Option Value)), K.lookup cc = some ⟨cl, cld, .cell (some (.ref D)), csl⟩) ∧
    ∃ (ccl : Value) (cdd : Option Addr) (ccs : Array (Option Value)) (vs : Array Value) (file : Str) (tf : Tok), K.lookup cda = some ⟨ccl, cdd, .fields vs, ccs⟩ ∧ vs[2]? = some (.str file tf) ∧ ((P.main.file : Str) == file) = true
  top : (P.main.scope.names.lookup ("super" : Str)).isSome = false
  cls : ∃ cd, clsIn K D = some cd
  kp : keepIn K (.ref f) = true
structure SupScope (N ps : List Str) (sc : Scope) : Prop where
  kind : sc.kind = .function
  co : sc.isCoroutine = false
  gen : sc.isGenerator = false
  nd : N.Nodup
  pre : N.take ps.length = ps
  par : ∀ x ∈ ps, sc.names.lookup x = some .local
  nocell : ∀ y ∈ sc.names, y.2 ≠ .cell
  free : ∀ y ∈ sc.names, y.2 = .free → y.1 = "__class__"
  sup : sc.names.lookup ("super" : Str) = some .globalImplicit
  cl : sc.names.lookup ("__class__" : Str) = some .free
/-- the context of such a method's body -/
def cxS (CX : CXT) (P : Program) (w : World) (K : Frag) (mg : Str → Option Value) (base : Heap) (N : List Str) (qual : Str) (scope : Scope) (f : Addr) (cd : Value) (cc : Addr) (A : Around) (outer : List Env) (s : Shared) (H : Hp) (E : XK) : Cx where
  prog := P
  w := w
  K := K
  mg := mg
  base := base
  A := A.deeper (ksEnv qual scope s.heap.objs.size f cd cc)
  N := N
  s_0 := s
  H_0 := H
  env := ksEnv qual scope s.heap.objs.size f cd cc
  outer := outer
  stack := ksEnv qual scope s.heap.objs.size f cd cc :: outer
  ex := []
  calm := true
  fn := fun _ => false
  pn := []
  xe := fun e s' => wpAny (model P w) (A.deeper (ksEnv qual scope s.heap.objs.size f cd cc)) (leaving (ksEnv qual scope s.heap.objs.size f cd cc) e) (fun _ s'' => CX outer H s E e s'') (fun e' s'' => CX outer H s E e' s'') s'
theorem zip_rev {ps : List Str} {us : List Value} (nd : ps.Nodup) {i : Nat} {y : Str} {u : Value} (hp : ps[i]? = some y) (hu : us[i]? = some u) : (ps.zip us).reverse.lookup y = some u := by
  have hm : (y, u) ∈ (ps.zip us).reverse := by
    rw [List.mem_reverse]
    refine List.mem_of_getElem? (i := i) ?_
    rw [List.getElem?_zip_eq_some]
    exact ⟨hp, hu⟩
  have un : ∀ v, (y, v) ∈ (ps.zip us).reverse → v = u := fun v hv => by
    rw [List.mem_reverse] at hv
    obtain ⟨j, hj⟩ := List.getElem?_of_mem hv
    rw [List.getElem?_zip_eq_some] at hj
    have e : i = j := by
      have hi : i < ps.length := (List.getElem?_eq_some_iff.mp hp).1
      exact (List.getElem?_inj hi nd).mp (hp.trans hj.1.symm)
    subst e
    exact Option.some.inj (hj.2.symm.trans hu)
  cases h : (ps.zip us).reverse.lookup y with
  | none => exact absurd (List.lookup_eq_none_iff.mp h _ hm) (by simp)
  | some v => rw [un v (PySem.mem_of_lookup h)]
theorem inv_startS {CX : CXT} {P : Program} {w : World} {K : Frag} {mg : Str → Option Value} {base : Heap} {N ps : List Str} {qual : Str} {scope : Scope} {f cc D : Addr} {cd : Value} {A : Around} {outer : List Env} {s : Shared} {H : Hp} {E : XK} {us : List Value} {vs : List V} {h1 : Heap} {tk : Nat}
    {cl : Value} {cld : Option Addr} {csl : Array (Option Value)} (S : SupScope N ps scope) (hd : A.handled = none) (e0 : Env0 P w K mg base A outer s H) (hl : vs.length = ps.length) (r : Vals vs us) (hcc : K.lookup cc = some ⟨cl, cld, .cell (some (.ref D)), csl⟩)
    (hns : h1.Ns s.heap.objs.size fun x => (ps.zip us).reverse.lookup x) (hk : ∀ b o, s.heap.get? b = some o → h1.get? b = some o) :
    Inv (cxS CX P w K mg base N qual scope f cd cc A outer s H E) [] (L2.start N vs) H { s with heap := h1, toks := tk } := by
  have hpl : ps.length ≤ N.length := by have := congrArg List.length S.pre; rw [List.length_take] at this; omega
  have noA : ∀ b : Addr, b ∉ (cxS CX P w K mg base N qual scope f cd cc A outer s H E).ex := fun b z => absurd (show b ∈ ([] : List Addr) from z) (by simp)
  have one : ∀ {y : Str} {c : Addr}, ([("__class__", cc)] : List (Str × Addr)).lookup y = some c → y = "__class__" ∧ c = cc := fun {y c} e => by
    have m := PySem.mem_of_lookup e
    simp only [List.mem_singleton, Prod.mk.injEq] at m
    exact m
  have hb := e0.bs cc _ (e0.mod.kin cc _ hcc)
  refine ⟨⟨e0.mod, S.kind, rfl, rfl, Nat.le_refl _, fun y z c h1 h2 => ?_, fun y hy => ?_, fun y c z _ => ?_, fun _ => hd, Around.frames_deeper e0.frames, .inr ⟨rfl, rfl⟩, fun b z => absurd z (noA b), e0.bs, e0.bsz, fun b _ _ => noA b, fun b z => absurd z (noA b), e0.funs, e0.frf⟩,
    rfl, e0.bare, Un.kept hk, ⟨_, hns, fun i y v h1 h2 h3 => ?_⟩, fun y c h => ?_, e0.hok.fresh (Nat.le_refl _), fun y c h => ?_, fun p hp => absurd (show p ∈ ([] : List (Addr × Obj)) from hp) (by simp), e0.hok.kept hk, ?_⟩
  · exact (one h1).1.trans (one h2).1.symm
  · have hy : scope.names.lookup y = some .cell ∨ scope.names.lookup y = some .free := hy
    rcases hy with hy | hy
    · exact absurd rfl (S.nocell _ (PySem.mem_of_lookup hy))
    · rw [show y = "__class__" from S.free _ (PySem.mem_of_lookup hy) rfl]
      exact ⟨cc, rfl⟩
  · cases (show false = true from z)
  · have hi : i < vs.length := by
      unfold L2.start at h2
      by_cases hi : i < vs.length
      · exact hi
      · rw [List.getElem?_append_right (by simpa using hi)] at h2
        rw [List.getElem?_replicate] at h2
        split at h2 <;> cases h2
    have ha : vs[i]? = some v := by
      unfold L2.start at h2
      rw [List.getElem?_append_left (by simpa using hi), List.getElem?_map] at h2
      cases e : vs[i]? with
      | none => rw [e] at h2; cases h2
      | some a => rw [e] at h2; cases h2; rfl
    obtain ⟨u, hu, rv⟩ := r.get ha
    have hp : ps[i]? = some y := by
      rw [← S.pre, List.getElem?_take_of_lt (by omega)]; exact h1
    have ndP : ps.Nodup := by rw [← S.pre]; exact S.nd.sublist (List.take_sublist _ _)
    exact ⟨u, rv, .inl ⟨S.par y (List.mem_of_getElem? hp), zip_rev ndP hp hu⟩⟩
  · rw [(one h).2]
    exact ⟨_, _, hk _ _ hb.1, rfl⟩
  · rw [(one h).2]
    exact hb.2
  · unfold L2.start
    show _ = N.length
    rw [List.length_append, List.length_map, List.length_replicate]
    omega
/-! ### super() -/
section
variable {CX : CXT} {P : Program} {w : World} {K : Frag} {mg : Str → Option Value} {base : Heap} {N ps : List Str} {qual : Str} {scope : Scope} {f cc D cda C a : Addr} {A : Around} {outer : List Env} {s0 s : Shared} {H0 H : Hp} {E0 : XK} {σ : L2.St} {E : Value → Shared → Prop} {fd : FuncData}
  {oc cl ccl : Value} {od cld cdd : Option Addr} {osl csl ccs : Array (Option Value)} {vs : Array Value} {file : Str} {tf : Tok} {cdD : ClassData} {ar : Arg} {ox : Obj} {odx : Option Obj} {body : List Stmt} {p0 p1 : Pos} {attr : Str} {whole : Sem Value}
/-- super() is made -/
theorem sup_node {Q : Value → Shared → Prop} (I : Inv (cxS CX P w K mg base N qual scope f (.ref cda) cc A outer s0 H0 E0) [] σ H s) (S : SupScope N ps scope) (hf : K.lookup f = some ⟨oc, od, .func fd, osl⟩) (hp : (fd.params.posonlyargs ++ fd.params.args).head? = some ar)
    (hcode : K.lookup cda = some ⟨ccl, cdd, .fields vs, ccs⟩) (hvs : vs[2]? = some (.str file tf)) (hfile : ((P.main.file : Str) == file) = true) (hcell : K.lookup cc = some ⟨cl, cld, .cell (some (.ref D)), csl⟩) (hD : clsIn K D = some cdD) (hsub : mroIn K C (.ref D) = some true) (hms : mg "super" = none)
    (hat : (attr == ("__class__" : Str)) = false) (htop : (P.main.scope.names.lookup ("super" : Str)).isSome = false) (hn : N[0]? = some ar.arg) (hka : scope.names.lookup ar.arg = some .local) (hσ : σ[0]? = some (some (.ref a))) (J : InstAt s.heap a ox C odx)
    (h : ∀ h', h'.get? s.heap.objs.size = some (ks_superObj D a C) → (∀ y o, s.heap.get? y = some o → h'.get? y = some o) → Q (.ref s.heap.objs.size) { s with heap := h' }) :
    _root_.PySem.wpAt (model P w) (A.deeper (ksEnv qual scope s0.heap.objs.size f (.ref cda) cc)) (.func body (ksEnv qual scope s0.heap.objs.size f (.ref cda) cc)) (attributeBase (.Call (.Name "super" p0) [] [] p1) attr (ksEnv qual scope s0.heap.objs.size f (.ref cda) cc) whole) Q E s := by
  have X : K.In s.heap := I.kIn
  obtain ⟨mb, hb1, hb2⟩ := I.mod.blt
  obtain ⟨m, hm, hl⟩ := I.loc
  obtain ⟨u, ru, lu⟩ := hl 0 _ _ hn hσ (.inl hka)
  cases (show u = Value.ref a from ru)
  have hv : m ar.arg = some (.ref a) := by
    rcases lu with ⟨_, z⟩ | ⟨z | z, _⟩
    · exact z
    · rw [show scope.names.lookup ar.arg = _ from z] at hka; cases hka
    · rw [show scope.names.lookup ar.arg = _ from z] at hka; cases hka
  have gk := I.mod.glob.keeps I.bk
  have bk := hb1.keeps I.bk
  have hm' : s.heap.Ns s0.heap.objs.size m := hm
  obtain ⟨hh, g, d, t, os⟩ := s
  obtain ⟨oD, hD1, hD2⟩ : ∃ oD, hh.get? D = some oD ∧ oD.data = .cls cdD := by
    unfold clsIn at hD
    split at hD
    · rename_i c d cd' sl ho
      cases hD
      exact ⟨_, X _ _ ho, rfl⟩
    · cases hD
  refine ks_wpAt_super_base (env := ksEnv qual scope s0.heap.objs.size f (.ref cda) cc) S.sup S.cl hat rfl (X _ _ hf) rfl hp rfl (X _ _ hcode) rfl hvs hfile htop ?_
  refine ks_loadName_global S.kind S.sup (loadGlobal_builtin (env := ksEnv qual scope s0.heap.objs.size f (.ref cda) cc) gk hms bk ((hb2 _ (by decide +kernel)).trans (by decide +kernel)) ⟨rfl, ?_⟩)
  refine wpAny_loadName_free S.kind S.cl rfl ⟨_, X _ _ hcell, rfl⟩ ?_
  refine wpAny_loadName_local S.kind hka hm' hv ?_
  refine ks_wpAny_isType_cls hD1 hD2 ⟨rfl, ?_⟩
  refine ks_wpAny_call_super hD1 hD2 J.at_ J.cls (fun c e => ?_) (looks_mroIn X hsub) (fun h' e k => ?_)
  · have := J.no
    unfold notCls at this
    rw [e] at this
    exact Bool.noConfusion this
  · exact h h' e k
end
section
variable {prog : Program} {w : World} {A : Around} {E : Value → Shared → Prop} {h : Heap} {g : Array GenState} {d : Drawn} {t : Nat} {os : OsState}
variable {nm q : Str} {C N : Addr} {bs bm : List Value} {hdct : Bool} {sn : List Str} {sub : List Value} {ab : Bool} {col : Option Bool} {dd : Option Addr} {k0 k1 k2 k3 k5 : Option Value}
/-- ValueError.__init__ bound to an exception, called -/
theorem call_mw {u e t0 : Addr} {rest : List Value} {Q : Value → Shared → Prop}
    (hC : h.get? C = some (excClassObj nm q C N bs bm hdct sn sub ab col dd k0 k1 k2 k3 k5 "ValueError.__new__")) (he : h.get? e = some (HandSPX.excO C t0)) (hu : h.get? u = some (kxs_mw "ValueError.__init__" e)) (hrest : rest.length ≤ sizeLine)
    (hq : ∀ h' t1, (∀ b o, b ≠ e → h.get? b = some o → h'.get? b = some o) → h'.get? e = some (HandSPX.excO C t1) → Q .none ⟨h', g, d, t, os⟩) :
    wpAny (model prog w) A (call (.ref u) rest) Q E ⟨h, g, d, t, os⟩ := by
  refine wpAny_call (codeAny_of_tree ?_)
  show wpAny _ A.in1 (callAny (.ref u) ⟨rest, []⟩) _ _ _
  simp only [callAny]
  refine wpAny_bind (wpAny_load hu ?_)
  simp only [kxs_mw, show (Value.type "method-wrapper" == Value.type "method" || Value.type "method-wrapper" == Value.type "builtin_function_or_method" || Value.type "method-wrapper" == Value.type "method-wrapper") = true by decide, if_true]
  refine W.KFB.if_so (by decide) ?_
  refine wpAny_bind (ESX.check_bound F.excBase_ValueError hC he rfl ?_)
  refine wpAny_bind (wpAny_pure (wpAny_pure ?_))
  refine ⟨Code.quiet_builtin _ (by decide +kernel), codeAny_builtin F.excBase_ValueError.initEntry ?_⟩
  rw [Around.under_plainId F.excBase_ValueError.init.plain _]
  wp_walk
  refine hq _ h.objs.size (fun b o hb ho => ?_) ?_
  · rw [Heap.get?_update_other _ _ (Ne.symm hb)]
    exact Heap.get?_push_of_some _ ho
  · rw [Heap.get?_update_self _ (Heap.get?_push_of_some _ he) rfl]
    rfl
end
end Ol

namespace Ol
open PySem PySem.W PySem.Spec PySem.Calls PyProof.Rows L2
section
variable {P : Program} {w : World} {K : Frag} {mg : Str → Option Value} {base : Heap} {N ps : List Str} {x qual : Str} {st : Stmt} {f D : Addr} {fd : FuncData} {k : Nat} {sp : Sp} {p0 p1 p2 p3 p4 : Pos} {e : Expr} {es : List Expr} {rest : List Stmt} {ar : Arg}
theorem hin {env : Env} (h : env.scope.kind = .function) : interactive env = false := by
  unfold interactive
  rw [h]
  rfl
/-- what a class of exceptions says of super().__init__ in a method of its base D -/
structure SupE (K : Frag) (C D : Addr) : Prop where
  oex : OexC K C
  mro : mroIn K C (.ref D) = some true
  sup : ks_superIn K C D "__init__" = some (some (.builtin "ValueError.__init__"))
  sub : subIn K (.ref C) (.type "ValueError") = some true
/-- an exception's __init__ that begins with super().__init__(..) -/
theorem FunS.okE (F : FunS P K x qual st f fd D) (S : SupScope N ps (defScope st)) (hb : defBody st = .Expr (.Call (.Attribute (.Call (.Name "super" p0) [] [] p1) "__init__" p2) (e :: es) [] p3) p4 :: rest) (hp : ((defArgs st).posonlyargs ++ (defArgs st).args).head? = some ar) (hn : N[0]? = some ar.arg) (hka : (defScope st).names.lookup ar.arg = some .local)
    (hms : mg "super" = none) (hop : nsIn K cStatics "thirdparty.any" = some none) (len : ∀ vs H Q E, sp vs H Q E → vs.length = ps.length)
    (hbody : ∀ (cda cc : Addr) (A : Around) (outer : List Env) (s : Shared) (H : Hp) (vs : List V) (Q : VK) (E : XK), Room k (A.deeper (ksEnv qual (defScope st) s.heap.objs.size f (.ref cda) cc)) → sp vs H Q E →
      ∃ (a C : Addr) (ta : TA) (t : TS), (L2.start N vs)[0]? = some (some (.ref a)) ∧ SupE K C D ∧ H a = some (exo a C none) ∧ PA (cxS CX0 P w K mg base N qual (defScope st) f (.ref cda) cc A outer s H E) (e :: es) ta ∧ PSs (cxS CX0 P w K mg base N qual (defScope st) f (.ref cda) cc A outer s H E).nox rest t ∧
        ta (L2.start N vs) H fun ws H1 => ws.length ≤ 1000 ∧ H1 a = some (exo a C none) ∧ t { nx := fun _ H' => Q .non H', rt := Q } (L2.start N vs) H1)
    (he : ∀ env : Env, starEach (e :: es) env = (false, eval e env) :: starEach es env := by intro _; rfl) (hpl : ∀ env : Env, (backTo p3 (starEach es env)).any (·.1) = false := by intro _; rfl)
    (hev : ∀ (env : Env), ∃ pl : Sem Bool, eval (.Call (.Attribute (.Call (.Name "super" p0) [] [] p1) "__init__" p2) (e :: es) [] p3) env = (do
      let ov ← attributeBase (.Call (.Name "super" p0) [] [] p1) "__init__" env (eval (.Call (.Name "super" p0) [] [] p1) env)
      standAt p2.atName
      let (f, first) ← holding [ov] (getMethod ov "__init__" pl)
      callWith p3 f first (backTo p3 (starEach (e :: es) env)) []) := by intro _; exact ⟨_, rfl⟩)
    (hsw : ∀ env : Env, swapsWith (.Call (.Attribute (.Call (.Name "super" p0) [] [] p1) "__init__" p2) (e :: es) [] p3) none p4.line env = pure false := by intro _; rfl) : FnOk P w K mg base CX0 (k + 1) f fd ps sp := by
  obtain ⟨oc, od, kV, doc, pm, an, cda, ct, osl, cc, rfl, lk, hcd, ⟨cl, cld, csl, hcell⟩, ccl, cdd, ccs, cvs, file, tf, hcode, hvs, hfile⟩ := F.ex
  obtain ⟨cdD, hD⟩ := F.cls
  refine ⟨len, fun A outer s H args us vs Q E hr e0 hbd r hsp => ?_⟩
  have hk : ∀ b o, base.get? b = some o → s.heap.get? b = some o := fun b o e => (e0.bs b o e).1
  have KX := e0.mod.kin.keeps hk
  have hl := len _ _ _ _ hsp
  refine ks_codeAny_call_defAt hr.depth (KX _ _ lk) rfl (e0.mod.nolimit.keeps hk) (codeRec_of KX hcd) rfl hbd S.nocell (fun y hy => S.par y.1 (List.of_mem_zip hy).1) (fun h₀ hns hk0 => ?_) S.co S.gen S.kind
  have I : Inv (cxS CX0 P w K mg base N qual (defScope st) f (.ref cda) cc A outer s H E) [] (L2.start N vs) H { s with heap := h₀, toks := s.toks + (ps.zip us).length } := inv_startS S hr.hd e0 hl r hcell hns hk0
  obtain ⟨a, C, ta, t, h0, SE, ea, ha, ht, hta⟩ := hbody cda cc A outer s H vs Q E (hr.deeper _) hsp
  obtain ⟨nm, q, Nc, bs, bm, sn, sub, ab, col, dd, k0, k1, k2, k3, k5, hC, hbm⟩ := SE.oex.cls
  show _root_.PySem.wpAt (model P w) (A.deeper (ksEnv qual (defScope st) s.heap.objs.size f (.ref cda) cc)) (.func (defBody st) (ksEnv qual (defScope st) s.heap.objs.size f (.ref cda) cc)) (execs (defBody st) (ksEnv qual (defScope st) s.heap.objs.size f (.ref cda) cc)) _ _ _
  generalize hbb : defBody st = bb
  rw [hbb] at hb
  subst hb
  obtain ⟨pl, hev'⟩ := hev (ksEnv qual (defScope st) s.heap.objs.size f (.ref cda) cc)
  refine ks_wpAt_execs_cons (ks_wpAt_Expr_any (ks_wpAt_MethodCall (pl := pl) ?_ hev') (hin S.kind) (hsw _))
  obtain ⟨t1, ho⟩ := exo_at I.hok ea
  have J : InstAt h₀ a _ C none := ⟨ho, rfl, rfl, trivial⟩
  refine sup_node I S lk hp hcode hvs hfile hcell hD SE.mro hms (by decide) F.top hn hka h0 J fun h1 e1 k1 => ?_
  have I1 := I.kept (t' := s.toks + (ps.zip us).length) k1
  have J1 : InstAt h1 a _ C none := ⟨k1 _ _ ho, rfl, rfl, trivial⟩
  have X1 : K.In h1 := I1.kIn
  cases hc : clsIn K C with
  | none => have hm := SE.sup; unfold ks_superIn at hm; rw [hc] at hm; cases hm
  | some cd =>
    have hm := SE.sup
    unfold ks_superIn at hm
    rw [hc] at hm
    refine kxs_getMethod kxs_ValueError e1 (looks_opaque X1 hop) (l₀ := cd.mro) (fun A Q E s k q => wpAny_bind ((looks_clsIn X1 hc) A _ E s k (wpAny_pure q))) rfl X1 hm (J1.type.andThen (looks_subIn X1 SE.sub)) (ks_ne X1 J1 hc) (by decide) ?_
    have I2 : Inv (cxS CX0 P w K mg base N qual (defScope st) f (.ref cda) cc A outer s H E) [(h1.objs.size, kxs_mw "ValueError.__init__" a)] (L2.start N vs) H { s with heap := h1.push (kxs_mw "ValueError.__init__" a), toks := s.toks + (ps.zip us).length + 1 } := by
      refine (I1.kept (t' := s.toks + (ps.zip us).length + 1) fun b o e => Heap.get?_push_of_some _ e).pins_of fun p hp => ?_
      cases List.mem_singleton.mp hp
      exact ⟨Heap.get?_push_at rfl rfl, I1.hok.fresh (Nat.le_refl _), Nat.ne_of_gt I1.lt, I1.nofs (Nat.le_refl _), fun v z => by cases z⟩
    have run := ha.run p3 _ _ _ H _ I2 hta
    rw [show starEach (e :: es) (cxS CX0 P w K mg base N qual (defScope st) f (.ref cda) cc A outer s H E).env = (false, eval e (ksEnv qual (defScope st) s.heap.objs.size f (.ref cda) cc)) :: starEach es (ksEnv qual (defScope st) s.heap.objs.size f (.ref cda) cc) from he _] at run
    dsimp only
    rw [he]
    refine kxs_callWith (i := "ValueError.__init__") (x := a) (by show (false || (backTo p3 (starEach es _)).any (·.1)) = false; rw [hpl]; rfl) (evalArgs_plain ?_)
    refine thn run fun ws s3 ⟨zs, H1, I3, rz, hz, ea1, ht1⟩ => ⟨(I3.pin (h1.objs.size, kxs_mw "ValueError.__init__" a) (by simp)).1, ?_⟩
    have pu := (I3.pin (h1.objs.size, kxs_mw "ValueError.__init__" a) (by simp)).1
    obtain ⟨t2, ho3⟩ := exo_at I3.hok ea1
    obtain ⟨hp3, g3, d3, tk3, os3⟩ := s3
    refine call_mw (I3.kIn _ _ hC) ho3 pu (by show ws.length ≤ sizeLine; rw [← Paired.length rz, sizeLine_eq]; omega) fun h' t4 k4 hx => ?_
    have J4 := I3.write (t' := tk3) (x := a) (e := a) (o := exo a C none) (by rw [ea1]; exact True.intro) (.inl rfl) k4 ⟨_, hx⟩ (exo_ok hx)
    have eu : upd H1 a (exo a C none) = H1 := by
      funext b
      by_cases hb : b = a
      · rw [hb, upd_same, ea1]
      · rw [upd_ne hb]
    rw [eu] at J4
    have J5 := J4.pins_of (pins' := []) fun p hp => by cases hp
    refine wpAt_of_wpAny (wpAny_mono (ht.nox.run [] _ _ H1 _ J5 ht1) (fun fl s' hs => ?_) fun e s' hs => hs)
    have fin : ∀ {σ' : L2.St} {H' : Hp} {v : V} {u : Value}, Inv (cxS CX0 P w K mg base N qual (defScope st) f (.ref cda) cc A outer s H E) [] σ' H' s' → L2.RelV v u → Q v H' → CE outer P w H s Q u s' :=
      fun {σ' H' v u} J rv q => ⟨v, H', J.os, J.bare, J.base, J.hok, rv, q⟩
    cases fl with
    | ret u =>
      obtain ⟨v, σ', H', J, rv, q⟩ := hs
      exact fin J rv q
    | next =>
      obtain ⟨σ', H', J, q⟩ := hs
      exact fin (v := V.non) (u := Value.none) J rfl q
    | brk =>
      obtain ⟨_, _, _, q⟩ := hs
      exact False.elim q
    | cont =>
      obtain ⟨_, _, _, q⟩ := hs
      exact False.elim q
end
end Ol

namespace Ol
open PySem PySem.W PySem.Spec PySem.Calls PyProof.Rows L2
/-! ### errors as values -/
/-- at a: an error of the class at C, with the dict d -/
def exv (a C : Addr) (d : Option Addr) : HO := .ext fun h => ∃ (o : Obj) (vs : Array Value), h.get? a = some o ∧ o.cls = .ref C ∧ o.dict = d ∧ o.data = .fields vs
theorem exv_ok {P : Program} {w : World} {H : Hp} {h : Heap} {a C : Addr} {d : Option Addr} {o : Obj} {vs : Array Value} (e : h.get? a = some o) (h1 : o.cls = .ref C) (h2 : o.dict = d) (h3 : o.data = .fields vs) : ObjOk P w H h a (exv a C d) :=
  ⟨⟨o, vs, e, h1, h2, h3⟩, ⟨o, e⟩, fun x y z k => by
    obtain ⟨o, vs, e, h1, h2, h3⟩ := z
    exact ⟨o, vs, k _ e, h1, h2, h3⟩⟩
theorem exv_at {P : Program} {w : World} {H : Hp} {h : Heap} {a C : Addr} {d : Option Addr} (hok : HOk P w H h) (he : H a = some (exv a C d)) : ∃ (o : Obj) (vs : Array Value), h.get? a = some o ∧ o.cls = .ref C ∧ o.dict = d ∧ o.data = .fields vs := by
  have x : ObjOk P w H h a (.ext fun h => ∃ (o : Obj) (vs : Array Value), h.get? a = some o ∧ o.cls = .ref C ∧ o.dict = d ∧ o.data = .fields vs) := hok a _ he
  exact x.1
structure ErrC (K : Frag) (C : Addr) : Prop where
  xf : XfC K C
  ex : ExcC K C
def ErrAt (H : Hp) (a C : Addr) (fs : List (Str × V)) : Prop := ∃ dx, H a = some (exv a C (some dx)) ∧ H dx = some (.xd fs)
theorem ErrAt.same {H H' : Hp} {a C : Addr} {fs : List (Str × V)} (e : ErrAt H a C fs) (s : Same H H') : ErrAt H' a C fs := by
  obtain ⟨dx, h1, h2⟩ := e
  exact ⟨dx, s _ _ h1, s _ _ h2⟩
section
variable {X : Cx} {pins : List (Addr × Obj)} {σ : L2.St} {H : Hp} {s : Shared}
/-- a pinned object is tracked -/
theorem track {a : Addr} {oe : Obj} {vs : Array Value} {o : HO} (I : Inv X ((a, oe) :: pins) σ H s) (n0 : X.s_0.heap.get? a = none) (hp : ∀ p ∈ X.pn ++ pins, p.1 ≠ a) (hd : oe.data = .fields vs) (new : ObjOk X.prog X.w (upd H a o) s.heap a o) : Inv X pins σ (upd H a o) s := by
  obtain ⟨ha, na, nL, nF, nc⟩ := I.pin (a, oe) (List.mem_append_right _ List.mem_cons_self)
  have up : ∀ {b : Addr} {u : HO}, H b = some u → upd H a o b = some u := fun {b u} e => by rw [upd_ne (ne_of_none e na)]; exact e
  have upn : ∀ {b : Addr}, b ≠ a → H b = none → upd H a o b = none := fun {b} n e => by rw [upd_ne n]; exact e
  refine ⟨I.ok, I.os, I.bare, ⟨I.base.keep, I.base.slot, fun b u e n hx => upn (fun z => by rw [z, n0] at e; cases e) (I.base.free b u e n hx), I.base.there, fun b xs e => up (I.base.tups b xs e), fun b ob u e => up (I.base.frzs b ob u e), fun b ps e => by
      obtain ⟨more, q⟩ := I.base.tbls b ps e
      exact ⟨more, up q⟩⟩, I.loc, I.cell, upn (Ne.symm nL) I.free, fun y c e => upn (fun z => ?_) (I.freeC y c e), fun p hp' => ?_, fun b u e => ?_, I.len⟩
  · obtain ⟨v, ob, h1, h2⟩ := I.cell y c e
    rw [z, ha] at h1
    cases h1
    rw [hd] at h2
    cases h2
  · have hp2 : p ∈ X.pn ++ (a, oe) :: pins := by
      rcases List.mem_append.mp hp' with h | h
      · exact List.mem_append_left _ h
      · exact List.mem_append_right _ (List.mem_cons_of_mem _ h)
    obtain ⟨e1, e2, e3, e4, e5⟩ := I.pin p hp2
    exact ⟨e1, upn (hp p hp') e2, e3, e4, e5⟩
  · by_cases hb : b = a
    · subst hb
      rw [upd_same] at e
      cases e
      exact new
    · rw [upd_ne hb] at e
      exact (I.hok b u e).stay (fun c v _ q => q) (fun c q => up q) fun c xs q => up q
/-- e.f, e an error -/
def tFldE (K : Frag) (te : TE) (f : Str) : TE := fun σ H Q => te σ H fun x H1 => ∃ (a C : Addr) (fs : List (Str × V)) (v : V), x = .ref a ∧ ErrAt H1 a C fs ∧ XfC K C ∧ findIn K (.ref C) f = some none ∧ fs.lookup f = some v ∧ Q v H1
theorem pe_fldE {e : Expr} {te : TE} {pos : Pos} {n : Str} (he : PE X e te) (hb : attributeBase e n X.env (eval e X.env) = eval e X.env := by rfl) : PE X (.Attribute e n pos) (tFldE X.K te n) := by
  refine ⟨fun pins s σ H Q I h => ?_⟩
  refine attr_of hb (thn (he.run pins s σ H _ I h) fun u s1 hh => ?_)
  obtain ⟨x, H1, I1, rx, a, C, fs, v, ex, ⟨dd, ea, ed⟩, T, hno, l, q⟩ := hh
  subst ex
  obtain rfl : u = Value.ref a := rx
  obtain ⟨oe, vs, ha, hc, hdi, hd⟩ := exv_at I1.hok ea
  have hx : ObjOk X.prog X.w H1 s1.heap dd (.xd fs) := I1.hok dd _ ed
  obtain ⟨mA, hns, hr⟩ := hx
  obtain ⟨od, ho, hl⟩ := lookIn_ns hns
  obtain ⟨u, hu, ru⟩ := RelO.some_of (v := v) (o := mA n) (by rw [← l]; exact hr n)
  have J : PySem.W.InstAt s1.heap a oe C (some od) := ⟨ha, hc, by unfold PySem.W.notCls; rw [hd] <;> rfl, by rw [hdi]; exact ho⟩
  exact HandSPX.exc_get I1.kIn J T.ga T.gg T.exC (PySem.W.findObj_own T.hdC hno rfl (by rw [hl, hu])) (handed_of ru) ⟨v, H1, I1.tok _, ru, q⟩
/-- an error, whatever it keeps -/
def ErrO (H : Hp) (a C : Addr) : Prop := ∃ d, H a = some (exv a C d) ∧ ∀ dx, d = some dx → ∃ fs, H dx = some (.xd fs)
theorem ErrAt.o {H : Hp} {a C : Addr} {fs : List (Str × V)} (e : ErrAt H a C fs) : ErrO H a C := by
  obtain ⟨dx, h1, h2⟩ := e
  exact ⟨_, h1, fun d e => by cases e; exact ⟨fs, h2⟩⟩
theorem ErrO.inst {a C : Addr} (I : Inv X pins σ H s) (e : ErrO H a C) : ∃ ox od, InstAt s.heap a ox C od := by
  obtain ⟨d, ea, hd'⟩ := e
  obtain ⟨oe, vs, ha, hc, hdi, hd⟩ := exv_at I.hok ea
  cases d with
  | none => exact ⟨oe, none, ha, hc, by unfold PySem.W.notCls; rw [hd] <;> rfl, by rw [hdi]; trivial⟩
  | some dx =>
    obtain ⟨fs, ed⟩ := hd' dx rfl
    have hx : ObjOk X.prog X.w H s.heap dx (.xd fs) := I.hok dx _ ed
    obtain ⟨mA, hns, hr⟩ := hx
    obtain ⟨od, ho, hl⟩ := lookIn_ns hns
    exact ⟨oe, some od, ha, hc, by unfold PySem.W.notCls; rw [hd] <;> rfl, by rw [hdi]; exact ho⟩
/-- isinstance(e, c), e an error -/
def rIsV (K : Frag) : List V → Hp → VK → Prop := fun xs H Q => ∃ (a C : Addr) (c : V) (cv : Value) (b : Bool), xs = [.ref a, c] ∧ ErrO H a C ∧ ExcC K C ∧ ClsV c cv ∧ kitOne K (.ref C) cv = some b ∧ Q (.bl b) H
theorem call_isV : CallR X (.builtin "isinstance") (rIsV X.K) := by
  intro pins s σ H xs us Q I r h
  obtain ⟨a, C, c, cv, b, rfl, eo, T, hcv, e, q⟩ := h
  obtain ⟨u1, u2, rfl, r1, r2⟩ := vals2 r
  cases (show u1 = Value.ref a from r1)
  have e2 := hcv.eq r2
  subst e2
  obtain ⟨ox, od, J⟩ := eo.inst I
  have hcl : (clsIn X.K C).isSome = true := by obtain ⟨cd, hc, _⟩ := any_some T.hd; rw [hc]; rfl
  exact PySem.W.kia_one (kitx_exc hcl T.hg T.hk T.hs T.ha T.hn T.ht T.hm) I.kIn J e (fun z => nomatch z) fun tk => ⟨.bl b, H, I.tok tk, rfl, q⟩
/-- isinstance(e, (c, ..)), e an error -/
def rIsVT (K : Frag) : List V → Hp → VK → Prop := fun xs H Q => ∃ (a C tp : Addr) (cs : List V) (us : List Value) (b : Bool), xs = [.ref a, .ref tp] ∧ ErrO H a C ∧ ExcC K C ∧ H tp = some (.tup cs) ∧ Paired ClsV cs us ∧ kitAny K (.ref C) us = some b ∧ Q (.bl b) H
theorem call_isVT : CallR X (.builtin "isinstance") (rIsVT X.K) := by
  intro pins s σ H xs us Q I r h
  obtain ⟨a, C, tp, cs, ws, b, rfl, eo, T, hT, k, e, q⟩ := h
  obtain ⟨u1, u2, rfl, r1, r2⟩ := vals2 r
  cases (show u1 = Value.ref a from r1)
  cases (show u2 = Value.ref tp from r2)
  obtain ⟨ox, od, J⟩ := eo.inst I
  have hcl : (clsIn X.K C).isSome = true := by obtain ⟨cd, hc, _⟩ := any_some T.hd; rw [hc]; rfl
  obtain ⟨_, its, rv, o, h1, h2, n, h3⟩ := (show ObjOk X.prog X.w H s.heap tp (.tup cs) from I.hok tp _ hT)
  have e3 := ClsV.all k rv
  subst e3
  obtain ⟨oc, od', dt, sl⟩ := o
  simp only at h2 h3
  subst h2 h3
  exact PySem.W.kia_tup (kitx_exc hcl T.hg T.hk T.hs T.ha T.hn T.ht T.hm) I.kIn J h1 e (fun z => nomatch z) fun tk => ⟨.bl b, H, I.tok tk, rfl, q⟩
end
/-! ### try: body, except x as n: suite, the error kept behind the suite -/
def wKeep (K : Frag) (c : Value) (i : Nat) (ts : Addr → Value → Option Addr → TS) (Wout : WX) (D : Ends) : WX := fun cls d σ H =>
  ∃ b, exmOne K cls c = some b ∧ (b = true → ∃ C, cls = .ref C ∧ ∀ a, H a = none → ts a cls d { nx := fun σ' H' => H' a = none ∧ D.nx (σ'.set i none) (upd H' a (exv a C d)), rt := D.rt, bk := fun σ' H' => D.bk (σ'.set i none) H', ct := fun σ' H' => D.ct (σ'.set i none) H' } (σ.set i (some (.ref a))) H) ∧
    (b = false → Wout cls d σ H)
section
variable {X : Cx} {x n : Str} {c : Value} {i : Nat} {body suite : List Stmt} {b₀ : Stmt} {np pos pos' : Pos} {tb : WX → TS} {ts : Addr → Value → Option Addr → TS} {Wout : WX}
theorem unsuiteK {pins : List (Addr × Obj)} {σ : L2.St} {H : Hp} {s : Shared} {a : Addr} {q : Addr × Obj} (I : Inv (X.suite a (q :: (X.pn ++ pins))) [] σ H s) (ok : X.Ok) : Inv X (q :: pins) σ H s :=
  ⟨ok, I.os, I.bare, I.base, I.loc, I.cell, I.free, I.freeC, fun p hp => I.pin p (by
    rw [List.append_nil]
    show p ∈ q :: (X.pn ++ pins)
    rcases List.mem_append.mp hp with h | h
    · exact List.mem_cons_of_mem _ (List.mem_append_left _ h)
    · rcases List.mem_cons.mp h with e | h
      · rw [e]; exact List.mem_cons_self
      · exact List.mem_cons_of_mem _ (List.mem_append_right _ h)), I.hok, I.len⟩
theorem ps_try_keep (hs : X.stack = X.env :: X.outer) (hf : X.env.frame = some X.env.locals) (hex : X.ex = []) (hN : X.N.Nodup) (hi : X.N[i]? = some n) (hln : X.env.kindOf n = some .local) (hc : Names X x c) (tk : Takes X Wout)
    (hb : ∀ (W : WX) (pn : List (Addr × Obj)) (xe : Value → Shared → Prop), Takes (X.tr pn xe) W → PassesOwn (model X.prog X.w) X.A X.env xe → PSs (X.tr pn xe) body (tb W))
    (hsu : ∀ (a : Addr) (oe : Obj) (cls : Value) (d : Option Addr) (pn : List (Addr × Obj)), Zc cls d oe → (∃ vs, oe.data = .fields vs) → PSs (X.suite a ((a, oe) :: pn)) (b₀ :: suite) (ts a cls d)) :
    PS X (.Try body [.ExceptHandler (some (.Name x np)) (some n) (b₀ :: suite) pos'] [] [] pos) (fun D σ H => tb (wKeep X.K c i ts Wout D) D σ H) := by
  refine ⟨fun pins s σ H D I h => ?_⟩
  have ok := I.ok
  have hfr : X.A.frames = some (X.env :: X.outer) := by rw [ok.frames, hs]
  have hloc : Loc X.env.scope n := .inl hln
  refine wpAny_Try_except ?_
  refine wpAny_mono ((hb (wKeep X.K c i ts Wout D) (X.pn ++ pins) (fun e s₁ => wpAny (model X.prog X.w) X.A (noteFrame e X.env) (fun _ s₂ => wpAny (model X.prog X.w) X.A (setFlight e none) (fun _ s₃ =>
    wpAny (model X.prog X.w) X.A (handleBy e X.env [.ExceptHandler (some (.Name x np)) (some n) (b₀ :: suite) pos']) (SP X pins D) X.xe s₃) X.xe s₂) X.xe s₁) (fun u s' xx => ?_) PassesOwn.looking).run [] s σ H D (I.toTry _) h) (fun f s1 hsp => ?_) (fun e s1 he => he)
  · -- the catch
    obtain ⟨a, B, sI, pins', σ', H', cls, d, rfl, J', nb, up, sky, na, os, ag, b, hb1, hyes, hno⟩ := xx
    have J : Inv X pins σ' H' sI := J'.ofTry ok
    have sky' : Sky B (X.env :: X.outer) a (Zc cls d) X.env.locals s'.heap := by rw [← hs]; exact sky
    show wpAny (model X.prog X.w) X.A (noteFrame (.ref a) X.env) _ _ _
    refine Sky.land Zc.steady hfr hf sky' fun h3 fl3 up3 => ?_
    have J3 : Inv X pins σ' H' { s' with heap := h3 } := J.landed nb fl3.1 (up.trans up3) os ag
    have fl0 := fl3
    obtain ⟨oe3, vs3, he3, hz3, hd3⟩ := fl3.there
    have notFr : ∀ {h : Heap} {o : Obj} {vs : Array Value}, h.FunFrames B (X.env :: X.outer) → h.get? a = some o → o.data = .fields vs → a ∉ frs (X.env :: X.outer) := fun {h o vs} ff e dd hm => by
      obtain ⟨_, o', e', hnf⟩ := ff.mem hm
      rw [e] at e'; cases e'
      exact hnf _ dd
    have nfr := notFr fl3.2.2.1 he3 hd3
    have nL : a ≠ X.env.locals := fun z => nfr (List.mem_filterMap.mpr ⟨X.env, List.mem_cons_self, by rw [hf, z]⟩)
    have nF : a ∉ X.fs := fun hm => by
      obtain ⟨e, he, q⟩ := List.mem_filterMap.mp hm
      exact nfr (List.mem_filterMap.mpr ⟨e, List.mem_cons_of_mem _ he, q⟩)
    have nI : sI.heap.get? a = none := by
      cases q : sI.heap.get? a with
      | none => rfl
      | some o =>
        have z := nb a o q (by rw [hs]; exact nfr)
        rw [fl0.2.1] at z
        cases z
    have n0 : X.s_0.heap.get? a = none := by
      cases q : X.s_0.heap.get? a with
      | none => rfl
      | some o =>
        obtain ⟨o', z⟩ := J.base.there a o q (by rw [hex]; simp)
        rw [nI] at z
        cases z
    have np' : ∀ p ∈ X.pn ++ pins, p.1 ≠ a := fun p hp z => by
      have q := (J.pin p hp).1
      rw [z, nI] at q
      cases q
    have S3 := J3.suite he3 hd3 na nL nF
    refine wpAny_handleBy_cons (codeAny_handlers_test ?_) (by intro q; cases q)
    have LT : PySem.W.Looks (model X.prog X.w) h3 (typeOf (.ref a)) cls := fun A Q E s k q => wpAny_typeOf_ref (k _ _ he3) (by rw [hz3.1]; exact q)
    have LM := PySem.W.exm_one (M := model X.prog X.w) (J3.kIn) LT hb1
    have test : ∀ {Q : Value → Shared → Prop} {E : Value → Shared → Prop}, Q c { s' with heap := h3 } → wpAny (model X.prog X.w) (X.A.mark (some (.ref a))) (eval (.Name x np) X.env) Q E { s' with heap := h3 } := fun {Q E} q => by
      obtain ⟨hg, hdbg, hm | ⟨hm, hv, hnn⟩⟩ := hc
      · exact ld_glob (X := X.suite a ((a, oe3) :: (X.pn ++ pins))) S3 hg hm q hdbg
      · exact ld_blt (X := X.suite a ((a, oe3) :: (X.pn ++ pins))) S3 hg hm hv q hnn hdbg
    refine test (LM.here ?_)
    cases b with
    | true =>
      obtain ⟨C, rfl, hyes⟩ := hyes rfl
      refine codeAny_handlers_suite_as ?_
      refine HandSPX.lands_againZ fl3 fun h4 fl4 up4 => ?_
      have J4 : Inv X pins σ' H' { s' with heap := h4 } := J.landed nb fl4.1 ((up.trans up3).trans up4) os ag
      obtain ⟨oe4, vs4, he4, hz4, hd4⟩ := fl4.there
      have S4 := J4.suite he4 hd4 na nL nF
      refine store_ok (X := X.suite a ((a, oe4) :: (X.pn ++ pins))) (v := .ref a) S4 hN hi hloc rfl (fun s5 S5 => ?_) (.inr hln)
      refine wpAny_mono ((hsu a oe4 (.ref C) d (X.pn ++ pins) hz4 ⟨_, hd4⟩).run [] s5 _ H' _ S5 (hyes a na)) (fun f s6 hsp => ?_) (fun _ _ z => False.elim z)
      have end_ : ∀ {σ6 : L2.St} {H6 : Hp} {Q : Shared → Prop}, Inv (X.suite a ((a, oe4) :: (X.pn ++ pins))) [] σ6 H6 s6 → (∀ s7, Inv X pins (σ6.set i none) H6 s7 → Q s7) →
          wpAny (model X.prog X.w) X.A (do bindName X.env n .none; unbindBehindTheSuite X.env n pos') (fun _ s7 => Q s7) X.xe s6 := fun {σ6 H6 Q} S6 hq => gone_ok (S6.unsuite ok) hN hi hln hq
      cases f with
      | next =>
        obtain ⟨σ6, H6, S6, na6, q6⟩ := hsp
        refine gone_ok (unsuiteK S6 ok) hN hi hln fun s7 J7 => ?_
        have pa := (J7.pin (a, oe4) (List.mem_append_right _ List.mem_cons_self)).1
        exact ⟨_, _, track J7 n0 np' hd4 (exv_ok pa hz4.1 hz4.2 hd4), q6⟩
      | brk =>
        obtain ⟨σ6, H6, S6, q6⟩ := hsp
        exact end_ S6 fun s7 J7 => ⟨_, _, J7, q6⟩
      | cont =>
        obtain ⟨σ6, H6, S6, q6⟩ := hsp
        exact end_ S6 fun s7 J7 => ⟨_, _, J7, q6⟩
      | ret u =>
        obtain ⟨v6, σ6, H6, S6, r6, q6⟩ := hsp
        exact end_ S6 fun s7 J7 => ⟨_, _, _, J7, r6, q6⟩
    | false =>
      show wpAny _ X.A (handleBy (.ref a) X.env []) _ _ _
      refine wpAny_handleBy_nil ?_
      obtain ⟨k1, k2, k3, oe, vs, T, oT, ts', he, hz, hd, h1, hr⟩ := id fl3
      unfold PySem.passOn
      refine wpAny_bind (wpAny_field he hd h1 ?_)
      rw [if_neg (show ¬ ((Value.ref T == Value.none) = true) from by simp)]
      have fin : wpAny (model X.prog X.w) X.A (setFlight (.ref a) X.env.frame) (fun _ s4 => wpAny (model X.prog X.w) X.A (throw (.ref a) : Sem Flow) (SP X pins D) X.xe s4) X.xe { s' with heap := h3 } := by
        rw [hf]
        refine HandSPX.setFlight_upZ fl3 fun h4 hh4 up4 => wpAny_throw (tk _ _ ?_)
        exact ⟨a, B, sI, pins, σ', H', cls, d, rfl, J, nb, (up.trans up3).trans up4, .inr (.inr (by rw [hs]; exact hh4)), na, os, ag, hno rfl⟩
      first
        | exact wpAny_bind (wpAny_pure (wpAny_bind fin))
        | exact wpAny_bind fin
  · cases f with
    | next =>
      obtain ⟨σ', H', J', q⟩ := hsp
      exact wpAny_execs_nil ⟨σ', H', J'.ofTry ok, q⟩
    | brk =>
      obtain ⟨σ', H', J', q⟩ := hsp
      exact ⟨σ', H', J'.ofTry ok, q⟩
    | cont =>
      obtain ⟨σ', H', J', q⟩ := hsp
      exact ⟨σ', H', J'.ofTry ok, q⟩
    | ret u =>
      obtain ⟨v, σ', H', J', r, q⟩ := hsp
      exact ⟨v, σ', H', J'.ofTry ok, r, q⟩
end
end Ol

namespace Ol
open PySem PySem.W PySem.Spec PySem.Calls PyProof.Rows L2
section
variable {P : Program} {w : World} {K : Frag} {mg : Str → Option Value} {base : Heap} {N ps ps2 : List Str} {x qual : Str} {st : Stmt} {f f2 D : Addr} {fd fd2 : FuncData} {k k2 : Nat} {sp sp2 : Sp} {p0 p1 p2 p3 p4 : Pos} {e : Expr} {es : List Expr} {ar : Arg}
/-- what a class says of super().__init__ in a method of its base D -/
structure SupO (K : Frag) (C D f2 : Addr) : Prop where
  mro : mroIn K C (.ref D) = some true
  sup : ks_superIn K C D "__init__" = some (some (.ref f2))
/-- an __init__ that is super().__init__(..), an own one -/
theorem FunS.okO (F : FunS P K x qual st f fd D) (S : SupScope N ps (defScope st)) (hb : defBody st = [.Expr (.Call (.Attribute (.Call (.Name "super" p0) [] [] p1) "__init__" p2) (e :: es) [] p3) p4]) (hp : ((defArgs st).posonlyargs ++ (defArgs st).args).head? = some ar) (hn : N[0]? = some ar.arg) (hka : (defScope st).names.lookup ar.arg = some .local)
    (hms : mg "super" = none) (hop : nsIn K cStatics "thirdparty.any" = some none) (len : ∀ vs H Q E, sp vs H Q E → vs.length = ps.length)
    (F2 : FnOk P w K mg base (L2.CX P w) k2 f2 fd2 ps2 sp2) (hk2 : k2 ≤ k) (hb2 : Binds K fd2 ps2 []) (ht2 : isFn K (.ref f2) = true) (hf2 : fnIn K f2 = true)
    (hbody : ∀ (cda cc : Addr) (A : Around) (outer : List Env) (s : Shared) (H : Hp) (vs : List V) (Q : VK) (E : XK), Room k (A.deeper (ksEnv qual (defScope st) s.heap.objs.size f (.ref cda) cc)) → sp vs H Q E →
      ∃ (a C dx : Addr) (fs : List (Str × V)) (ta : TA), (L2.start N vs)[0]? = some (some (.ref a)) ∧ SupO K C D f2 ∧ H a = some (.ins C dx fs) ∧ PA (cxS (L2.CX P w) P w K mg base N qual (defScope st) f (.ref cda) cc A outer s H E) (e :: es) ta ∧
        ta (L2.start N vs) H fun ws H1 => sp2 (.ref a :: ws) H1 (fun _ H2 => Q .non H2) E)
    (he : ∀ env : Env, starEach (e :: es) env = (false, eval e env) :: starEach es env := by intro _; rfl) (hpl : ∀ env : Env, (backTo p3 (starEach es env)).any (·.1) = false := by intro _; rfl)
    (hev : ∀ (env : Env), ∃ pl : Sem Bool, eval (.Call (.Attribute (.Call (.Name "super" p0) [] [] p1) "__init__" p2) (e :: es) [] p3) env = (do
      let ov ← attributeBase (.Call (.Name "super" p0) [] [] p1) "__init__" env (eval (.Call (.Name "super" p0) [] [] p1) env)
      standAt p2.atName
      let (f, first) ← holding [ov] (getMethod ov "__init__" pl)
      callWith p3 f first (backTo p3 (starEach (e :: es) env)) []) := by intro _; exact ⟨_, rfl⟩)
    (hsw : ∀ env : Env, swapsWith (.Call (.Attribute (.Call (.Name "super" p0) [] [] p1) "__init__" p2) (e :: es) [] p3) none p4.line env = pure false := by intro _; rfl) : FnOk P w K mg base (L2.CX P w) (k + 1) f fd ps sp := by
  obtain ⟨oc, od, kV, doc, pm, an, cda, ct, osl, cc, rfl, lk, hcd, ⟨cl, cld, csl, hcell⟩, ccl, cdd, ccs, cvs, file, tf, hcode, hvs, hfile⟩ := F.ex
  obtain ⟨cdD, hD⟩ := F.cls
  refine ⟨len, fun A outer s H args us vs Q E hr e0 hbd r hsp => ?_⟩
  have hk : ∀ b o, base.get? b = some o → s.heap.get? b = some o := fun b o e => (e0.bs b o e).1
  have KX := e0.mod.kin.keeps hk
  have hl := len _ _ _ _ hsp
  refine ks_codeAny_call_defAt hr.depth (KX _ _ lk) rfl (e0.mod.nolimit.keeps hk) (codeRec_of KX hcd) rfl hbd S.nocell (fun y hy => S.par y.1 (List.of_mem_zip hy).1) (fun h₀ hns hk0 => ?_) S.co S.gen S.kind
  have I : Inv (cxS (L2.CX P w) P w K mg base N qual (defScope st) f (.ref cda) cc A outer s H E) [] (L2.start N vs) H { s with heap := h₀, toks := s.toks + (ps.zip us).length } := inv_startS S hr.hd e0 hl r hcell hns hk0
  have hr' := hr.deeper (ksEnv qual (defScope st) s.heap.objs.size f (.ref cda) cc)
  obtain ⟨a, C, dx, fs, ta, h0, SO, ea, ha, hta⟩ := hbody cda cc A outer s H vs Q E hr' hsp
  show _root_.PySem.wpAt (model P w) (A.deeper (ksEnv qual (defScope st) s.heap.objs.size f (.ref cda) cc)) (.func (defBody st) (ksEnv qual (defScope st) s.heap.objs.size f (.ref cda) cc)) (execs (defBody st) (ksEnv qual (defScope st) s.heap.objs.size f (.ref cda) cc)) _ _ _
  generalize hbb : defBody st = bb
  rw [hbb] at hb
  subst hb
  obtain ⟨pl, hev'⟩ := hev (ksEnv qual (defScope st) s.heap.objs.size f (.ref cda) cc)
  refine ks_wpAt_execs_cons (ks_wpAt_Expr_any (ks_wpAt_MethodCall (pl := pl) ?_ hev') (hin S.kind) (hsw _))
  obtain ⟨mA, O, _⟩ := ins_get I.hok ea
  obtain ⟨od', J, _⟩ := O.look
  refine sup_node I S lk hp hcode hvs hfile hcell hD SO.mro hms (by decide) F.top hn hka h0 J fun h1 e1 k1 => ?_
  have I1 := I.kept (t' := s.toks + (ps.zip us).length) k1
  obtain ⟨mA1, O1, _⟩ := ins_get I1.hok ea
  obtain ⟨od1, J1, _⟩ := O1.look
  have X1 : K.In h1 := I1.kIn
  obtain ⟨of, hof, hofc⟩ : ∃ of, h1.get? f2 = some of ∧ of.cls = .type "function" := by
    have ht' : (K.lookup f2).map (·.cls) = some (.type "function") := beq_iff_eq.mp ht2
    cases z : K.lookup f2 with
    | none => rw [z] at ht'; cases ht'
    | some of => rw [z] at ht'; exact ⟨of, X1 _ _ z, Option.some.inj ht'⟩
  cases hc : clsIn K C with
  | none => have hm := SO.sup; unfold ks_superIn at hm; rw [hc] at hm; cases hm
  | some cd =>
    have hm := SO.sup
    unfold ks_superIn at hm
    rw [hc] at hm
    refine ks_wpAny_getMethod_super e1 (looks_opaque X1 hop) (l₀ := cd.mro) (fun A Q E s k q => wpAny_bind ((looks_clsIn X1 hc) A _ E s k (wpAny_pure q))) rfl X1 hm hof hofc (ks_ne X1 J1 hc) (by decide) ?_
    have I2 := ClX.met_new (g := f2) (C := a) I1
    have hq : base.get? h1.objs.size = none := by
      cases z : base.get? h1.objs.size with
      | none => rfl
      | some o =>
        have z1 := Heap.lt_size z
        have z2 := e0.bsz
        have z3 := I1.sz
        exact absurd (Nat.lt_of_lt_of_le z1 (Nat.le_trans z2 z3)) (Nat.lt_irrefl _)
    dsimp only
    refine ClX.callwith_cm (X := cxS (L2.CX P w) P w K mg base N qual (defScope st) f (.ref cda) cc A outer s H E) I2 hq hf2 (thn (ha.run p3 _ _ _ H _ I2 hta) fun ws s3 ⟨zs, H1, I3, rz, hsp2⟩ => ⟨⟨ClX.pin_at I3, I3.kIn⟩, ?_⟩) (he _) (hpl _)
    have hl2 : (Value.ref a :: ws).length = ps2.length := by rw [List.length_cons, ← Paired.length rz, ← List.length_cons]; exact F2.len _ _ _ _ hsp2
    have hb' := hb2 s3 (.ref a :: ws) I3.kIn (by rw [List.append_nil]; exact hl2)
    rw [List.append_nil] at hb'
    refine wpAny_call (method_call (ClX.pin_at I3) (codeAny_mono (F2.run _ _ s3 H1 ⟨.ref a :: ws, []⟩ (.ref a :: ws) (.ref a :: zs) _ E (hr'.mono hk2) I3.env0 hb' (.cons rfl rz) hsp2) fun r s' hq => ?_))
    cases r with
    | error e => exact passes_call (takes_of rfl rfl rfl rfl) (fun _ _ _ _ h => h) _ _ H1 s3 e s' I3 hq
    | ok fl =>
      cases fl with
      | ret u =>
        obtain ⟨v, H2, J2, rv, q⟩ := I3.after hq
        refine wpAt_of_wpAny (wpAny_execs_nil ?_)
        exact ⟨.non, H2, J2.os, J2.bare, J2.base, J2.hok, rfl, q⟩
      | next => exact False.elim hq
      | brk => exact False.elim hq
      | cont => exact False.elim hq
end
end Ol

namespace Ol
open PySem PySem.W PySem.Spec PySem.Calls PyProof.Rows L2
/-! ### the __init__ of errors -/
def spErr1 (C : Addr) (f : Str) : Sp := fun vs H Q _ => ∃ (a : Addr) (v : V), vs = [.ref a, v] ∧ H a = some (exo a C none) ∧ ∀ dx, H dx = none → dx ≠ a → Q .non (upd (upd H dx (exd dx [(f, v)])) a (exo a C (some dx)))
def spErr2 (C : Addr) (f g : Str) : Sp := fun vs H Q _ => ∃ (a : Addr) (v u : V), vs = [.ref a, v, u] ∧ H a = some (exo a C none) ∧ ∀ dx, H dx = none → dx ≠ a → Q .non (upd (upd (upd H dx (exd dx [(f, v)])) a (exo a C (some dx))) dx (exd dx [(g, u), (f, v)]))
section
variable {P : Program} {w : World} {K : Frag} {mg : Str → Option Value} {base : Heap} {qual x y : Str} {st : Stmt} {f C : Addr} {fd : FuncData} {fld gld : Str} {p0 p1 p2 p3 p4 pc q1 q2 q3 q4 r1 r2 r3 r4 : Pos} {msg : Str} {n : Nat} {ar : Arg}
theorem err1_ok (F : FunS P K "__init__" qual st f fd C) (S : SupScope ["self", x] ["self", x] (defScope st))
    (hb : defBody st = [.Expr (.Call (.Attribute (.Call (.Name "super" p0) [] [] p1) "__init__" p2) [.Constant (.str msg) n pc] [] p3) p4, .Assign [.Attribute (.Name "self" q1) fld q2] (.Name x q3) q4])
    (hp : ((defArgs st).posonlyargs ++ (defArgs st).args).head? = some ar) (hn : ar.arg = "self") (hms : mg "super" = none) (hop : nsIn K cStatics "thirdparty.any" = some none) (SE : SupE K C C) (hno : findIn K (.ref C) fld = some none)
    (hdx : (x == ("__debug__" : Str)) = false := by decide) (hcx : (x == ("__classdict__" : Str)) = false := by decide)
    (hev : ∀ (env : Env), ∃ pl : Sem Bool, eval (.Call (.Attribute (.Call (.Name "super" p0) [] [] p1) "__init__" p2) [.Constant (.str msg) n pc] [] p3) env = (do
      let ov ← attributeBase (.Call (.Name "super" p0) [] [] p1) "__init__" env (eval (.Call (.Name "super" p0) [] [] p1) env)
      standAt p2.atName
      let (f, first) ← holding [ov] (getMethod ov "__init__" pl)
      callWith p3 f first (backTo p3 (starEach [.Constant (.str msg) n pc] env)) []) := by intro _; exact ⟨_, rfl⟩) : FnOk P w K mg base CX0 1 f fd ["self", x] (spErr1 C fld) := by
  have l0 := S.par "self" (by simp)
  have l1 := S.par x (by simp)
  refine FunS.okE F S hb hp (by rw [hn]; rfl) (by rw [hn]; exact l0) hms hop (fun vs H Q E h => by obtain ⟨a, v, rfl, _⟩ := h; rfl) (fun cda cc A outer s H vs Q E hr h => ?_) (hev := hev)
  obtain ⟨a, v, rfl, ea, q⟩ := h
  refine ⟨a, C, _, _, rfl, SE, ea, pa_cons pe_str pa_nil, pss_one (ps_ost (pe_var (i := 0) rfl (.inl l0)) (pe_var (i := 1) rfl (.inl l1) hdx hcx)), ?_⟩
  refine ⟨Nat.le_of_ble_eq_true rfl, ea, ?_⟩
  refine ⟨v, rfl, .ref a, rfl, a, C, rfl, SE.oex, hno, .inl ⟨ea, fun dx h1 h2 => ?_⟩⟩
  exact q dx h1 h2
theorem err2_ok (F : FunS P K "__init__" qual st f fd C) (S : SupScope ["self", x, y] ["self", x, y] (defScope st))
    (hb : defBody st = [.Expr (.Call (.Attribute (.Call (.Name "super" p0) [] [] p1) "__init__" p2) [.Constant (.str msg) n pc] [] p3) p4, .Assign [.Attribute (.Name "self" q1) fld q2] (.Name x q3) q4, .Assign [.Attribute (.Name "self" r1) gld r2] (.Name y r3) r4])
    (hp : ((defArgs st).posonlyargs ++ (defArgs st).args).head? = some ar) (hn : ar.arg = "self") (hms : mg "super" = none) (hop : nsIn K cStatics "thirdparty.any" = some none) (SE : SupE K C C) (hno : findIn K (.ref C) fld = some none) (hno2 : findIn K (.ref C) gld = some none)
    (hdx : (x == ("__debug__" : Str)) = false := by decide) (hcx : (x == ("__classdict__" : Str)) = false := by decide) (hdy : (y == ("__debug__" : Str)) = false := by decide) (hcy : (y == ("__classdict__" : Str)) = false := by decide)
    (hev : ∀ (env : Env), ∃ pl : Sem Bool, eval (.Call (.Attribute (.Call (.Name "super" p0) [] [] p1) "__init__" p2) [.Constant (.str msg) n pc] [] p3) env = (do
      let ov ← attributeBase (.Call (.Name "super" p0) [] [] p1) "__init__" env (eval (.Call (.Name "super" p0) [] [] p1) env)
      standAt p2.atName
      let (f, first) ← holding [ov] (getMethod ov "__init__" pl)
      callWith p3 f first (backTo p3 (starEach [.Constant (.str msg) n pc] env)) []) := by intro _; exact ⟨_, rfl⟩) : FnOk P w K mg base CX0 1 f fd ["self", x, y] (spErr2 C fld gld) := by
  have l0 := S.par "self" (by simp)
  have l1 := S.par x (by simp)
  have l2 := S.par y (by simp)
  refine FunS.okE F S hb hp (by rw [hn]; rfl) (by rw [hn]; exact l0) hms hop (fun vs H Q E h => by obtain ⟨a, v, u, rfl, _⟩ := h; rfl) (fun cda cc A outer s H vs Q E hr h => ?_) (hev := hev)
  obtain ⟨a, v, u, rfl, ea, q⟩ := h
  refine ⟨a, C, _, _, rfl, SE, ea, pa_cons pe_str pa_nil, pss_cons (ps_ost (pe_var (i := 0) rfl (.inl l0)) (pe_var (i := 1) rfl (.inl l1) hdx hcx)) (pss_one (ps_ost (pe_var (i := 0) rfl (.inl l0)) (pe_var (i := 2) rfl (.inl l2) hdy hcy))), ?_⟩
  refine ⟨Nat.le_of_ble_eq_true rfl, ea, ?_⟩
  refine ⟨v, rfl, .ref a, rfl, a, C, rfl, SE.oex, hno, .inl ⟨ea, fun dx h1 h2 => ?_⟩⟩
  refine ⟨u, rfl, .ref a, rfl, a, C, rfl, SE.oex, hno2, .inr ⟨dx, [(fld, v)], upd_same, by rw [upd_ne h2]; exact upd_same, Nat.le_of_ble_eq_true rfl, ?_⟩⟩
  exact q dx h1 h2
end
/-! ### what a raise leaves -/
/-- an error of the class at C with the fields fs is let out -/
def Rz (C : Addr) (fs : List (Str × V)) (H : Hp) (E : XK) : Prop := ∀ d H', H d = none → Same H H' → H' d = some (.xd fs) → E (.ref C) (some d) H'
section
variable {H : Hp} {E E' : XK} {C : Addr} {f g : Str} {v u : V}
theorem raise1 (r : Rz C [(f, v)] H E) : [v].length ≤ 1000 ∧ ∀ a, H a = none → spErr1 C f (.ref a :: ([v] ++ [])) (upd H a (exo a C none))
    (fun z H2 => z = .non ∧ ∃ (d : Addr) (fs : List (Str × V)), H2 a = some (exo a C (some d)) ∧ H2 d = some (exd d fs) ∧ H d = none ∧ E (.ref C) (some d) (upd (del H2 a) d (.xd fs))) E' := by
  refine ⟨Nat.le_of_ble_eq_true rfl, fun a ha => ⟨a, v, rfl, upd_same, fun dx hdx hne => ⟨rfl, dx, _, upd_same, by rw [upd_ne hne]; exact upd_same, by rw [upd_ne hne] at hdx; exact hdx, ?_⟩⟩⟩
  rw [upd_ne hne] at hdx
  refine r dx _ hdx (fun b o e => ?_) upd_same
  rw [upd_ne (ne_of_none e hdx), del_ne (ne_of_none e ha), upd_ne (ne_of_none e ha), upd_ne (ne_of_none e hdx), upd_ne (ne_of_none e ha)]
  exact e
theorem raise2 (r : Rz C [(g, u), (f, v)] H E) : [v, u].length ≤ 1000 ∧ ∀ a, H a = none → spErr2 C f g (.ref a :: ([v, u] ++ [])) (upd H a (exo a C none))
    (fun z H2 => z = .non ∧ ∃ (d : Addr) (fs : List (Str × V)), H2 a = some (exo a C (some d)) ∧ H2 d = some (exd d fs) ∧ H d = none ∧ E (.ref C) (some d) (upd (del H2 a) d (.xd fs))) E' := by
  refine ⟨Nat.le_of_ble_eq_true rfl, fun a ha => ⟨a, v, u, rfl, upd_same, fun dx hdx hne => ⟨rfl, dx, _, by rw [upd_ne (Ne.symm hne)]; exact upd_same, upd_same, by rw [upd_ne hne] at hdx; exact hdx, ?_⟩⟩⟩
  rw [upd_ne hne] at hdx
  refine r dx _ hdx (fun b o e => ?_) upd_same
  rw [upd_ne (ne_of_none e hdx), del_ne (ne_of_none e ha), upd_ne (ne_of_none e hdx), upd_ne (ne_of_none e ha), upd_ne (ne_of_none e hdx), upd_ne (ne_of_none e ha)]
  exact e
end
end Ol

namespace Ol
open PySem PySem.W PySem.Spec PySem.Calls PyProof.Rows L2 LamX
/-! ### defs that make lambdas -/
/-- a def whose code object stands at c -/
structure FunL (K : Frag) (x qual : Str) (st : Stmt) (f : Addr) (fd : FuncData) (c : Addr) : Prop where
  ex : ∃ (oc : Value) (od : Option Addr) (kV doc pm : Value) (an : Option Addr) (ct : Value) (osl : Array (Option Value)),
    fd = fnOf x qual (defArgs st) (defBody st) (defScope st) .none kV doc pm an (.ref c) ct ∧ K.lookup f = some ⟨oc, od, .func fd, osl⟩ ∧ codeIn K (.ref c) qual = true
  kp : keepIn K (.ref f) = true
section
variable {P : Program} {w : World} {K : Frag} {mg : Str → Option Value} {base : Heap} {x qual : Str} {st : Stmt} {f c : Addr} {fd : FuncData} {N ps : List Str} {k : Nat} {sp : Sp}
theorem FunL.fn (F : FunL K x qual st f fd c) : Fun K x qual st f fd := by
  obtain ⟨oc, od, kV, doc, pm, an, ct, osl, rfl, lk, hcd⟩ := F.ex
  exact ⟨⟨oc, od, kV, doc, pm, an, _, ct, osl, rfl, lk, hcd⟩, F.kp⟩
theorem FunL.ok (F : FunL K x qual st f fd c) (S : FnScope N ps (defScope st)) (len : ∀ vs H Q E, sp vs H Q E → vs.length = ps.length)
    (hbody : ∀ (A : Around) (outer : List Env) (s : Shared) (H : Hp) (vs : List V) (Q : VK) (E : XK), Room k (A.deeper (envOfC qual (defScope st) s.heap.objs.size f (.ref c))) → sp vs H Q E →
      ∃ t, PSs (cxOf CX0 P w K mg base N qual (defScope st) f (.ref c) A outer s H E).nox (defBody st) t ∧ t { nx := fun _ H' => Q .non H', rt := Q } (L2.start N vs) H) : FnOk P w K mg base CX0 (k + 1) f fd ps sp := by
  obtain ⟨oc, od, kV, doc, pm, an, ct, osl, rfl, lk, hcd⟩ := F.ex
  refine fn_of lk hcd S len fun A outer s H vs Q E hr hsp => ?_
  obtain ⟨t, h, q⟩ := hbody A outer s H vs Q E hr hsp
  exact ⟨t, h.nox, q⟩
end
section
variable {X : Cx} {T : List (Addr × Str)} {TT : (XK → Hp → VK → Prop) → Hp → VK → Prop} {x a : Str} {g c P : Addr} {k : Nat} {st : Stmt} {fd : FuncData} {Ng : List Str} {params : Arguments} {body : Expr} {scope : Scope} {t : XK → TE} {p lpos pos : Pos}
/-- x(lambda: body) -/
theorem pe_lam (F : Fun X.K x x st g fd) (hb : L2.Binds X.K fd [a] []) (Sg : FnScope Ng [a] (defScope st)) (hG : ∀ cdg, GivesTo X Ng x (defScope st) g cdg (defBody st) a (X.env.qual ++ "<lambda>") TT) (hg : Gl X x) (hm : X.mg x = some (.ref g))
    (TB : TabB X.base X.mg c P) (hcode : X.env.code = .ref c) (hmT : (P, X.env.qual ++ "<lambda>") ∈ T) (hu : ∀ p ∈ T, p.1 = P → p.2 = X.env.qual ++ "<lambda>") (hr : Room (k + 2) X.A) (L : LamS X.env.scope scope)
    (hbody : ∀ (A : Around) (outer : List Env) (s : Shared) (H : Hp) (E : XK) (f c' : Addr), Room k (A.deeper (lamEnv X scope s.heap.objs.size f c')) → PE (lamCx X A outer s H E scope f c') body (t E))
    (hNg : Ng[0]? = some a := by rfl) (hdef : defaultsOf params X.env = ([], []) := by rfl)
    (hbind : ∀ (q : Str) (cl : List (Str × Addr)) (pm cv ctv : Value), bindArgs (PySem.W.kla_fn "<lambda>" q params body scope cl pm cv ctv) ⟨[], []⟩ = pure [] := by intro _ _ _ _ _; rfl)
    (hdb : (x == ("__debug__" : Str)) = false := by decide) (hd : (a == ("__debug__" : Str)) = false := by decide) (hcd : (a == ("__classdict__" : Str)) = false := by decide) :
    PE X (.Call (.Name x p) [.Lambda params body scope lpos] [] pos) (tLam T TT t) := by
  obtain ⟨oc, od, kV, doc, pm, an, cdv, ct, osl, rfl, lk, hcd'⟩ := F.ex
  have hv : Vis (defScope st) a := by
    rcases Sg.par a (by simp) with h | h
    · exact .inl h
    · exact .inr (.inl h)
  exact pe_lamcall hg hm F.kp lk hcd' hb Sg hNg hv (hG cdv) TB hcode hmT hu hr L hdef hbind hbody hdb hd hcd
end
/-! ### facts of errors and of methods with super -/
structure ErrT (K : Frag) (C fI : Addr) : Prop where
  se : SupE K C C
  xf : XfC K C
  ex : ExcC K C
  iC : findIn K (.ref C) "__init__" = some (some (.ref fI))
  tI : typeIn K (.ref fI) = some (.type "function")
theorem FunS.binds {P : Program} {K : Frag} {x qual : Str} {st : Stmt} {f D : Addr} {fd : FuncData} {ps : List Str} (F : FunS P K x qual st f fd D)
    (h : ∀ (kV doc pm : Value) (an : Option Addr) (cdv ct : Value) (cc : Addr) (us : List Value), us.length = ps.length → bindArgs (ksFn x qual (defArgs st) (defBody st) (defScope st) .none kV doc pm an cdv ct cc) ⟨us, []⟩ = pure (ps.zip us)) : L2.Binds K fd ps [] := by
  obtain ⟨oc, od, kV, doc, pm, an, cda, ct, osl, cc, rfl, _⟩ := F.ex
  exact .all (h kV doc pm an _ ct cc)
theorem FunS.kbn {P : Program} {K : Frag} {x qual : Str} {st : Stmt} {f D : Addr} {fd : FuncData} {ps ks : List Str} (F : FunS P K x qual st f fd D) (n : Nat) (is : List Nat)
    (h : ∀ (kV doc pm : Value) (an : Option Addr) (cdv ct : Value) (cc : Addr) (us ws : List Value), us.length = n → ws.length = ks.length → bindArgs (ksFn x qual (defArgs st) (defBody st) (defScope st) .none kV doc pm an cdv ct cc) ⟨us, ks.zip ws⟩ = pure (ps.zip (perm is us ws))) :
    KBn K fd ps n ks (perm is) (perm is) := by
  obtain ⟨oc, od, kV, doc, pm, an, cda, ct, osl, cc, rfl, _⟩ := F.ex
  exact ⟨fun s us ws _ h1 h2 => .of_eq (h kV doc pm an _ ct cc us ws h1 h2), fun r1 r2 => r1.append (vals_pick r2 is)⟩
theorem pe_gs {X : Cx} {x : Str} {z : Str} {pos : Pos} (hg : Gl X x) (h : ∃ t, X.mg x = some (Value.str z t)) (hd : (x == ("__debug__" : Str)) = false := by decide) : PE X (.Name x pos) (tC (.str z)) := by
  obtain ⟨t, h⟩ := h
  exact pe_glob hg h ⟨t, rfl⟩ hd
/-! ### heaps beside the pen and the tables -/
def GoT (p : Addr) (H H' : Hp) : Prop := ∀ b o, b ≠ p → (∀ ps, o ≠ .tbl ps) → H b = some o → H' b = some o
theorem GoT.refl (p : Addr) (H : Hp) : GoT p H H := fun _ _ _ _ h => h
theorem GoT.trans {p : Addr} {H H1 H2 : Hp} (a : GoT p H H1) (b : GoT p H1 H2) : GoT p H H2 := fun c o n t h => b c o n t (a c o n t h)
theorem Go.t {p : Addr} {H H' : Hp} (g : Go p H H') : GoT p H H' := fun b o n _ h => g b o n h
theorem ext_t {p : Addr} {H H' : Hp} (g : ExtN H H') : GoT p H H' := fun b o _ t h => g b o h t
theorem same_t {p : Addr} {H H' : Hp} (g : Same H H') : GoT p H H' := fun b o _ _ h => g b o h
theorem Pen.ext {p : Addr} {H H' : Hp} {n : Nat} (h : Pen p H n) (e : ExtN H H') : Pen p H' n := by
  obtain ⟨l, c, sp, g, h1, h2, h3, h4⟩ := h
  exact ⟨l, c, sp, g, e _ _ h1 (fun _ z => by cases z), h2, e _ _ h3 (fun _ z => by cases z), h4⟩
/-- the tables stand beside the pen -/
theorem Tabs.go {p : Addr} {T : List (Addr × Str)} {H H' : Hp} {n : Nat} (t : Tabs T H) (pen : Pen p H n) (g : Go p H H') : Tabs T H' := fun q hq => by
  obtain ⟨ps, h1, h2, h3⟩ := t q hq
  obtain ⟨l, c, sp, gr, p1, _⟩ := pen
  have ne : ∀ {b : Addr} {o : HO}, H b = some o → (∀ xs, o ≠ .lst xs) → b ≠ p := fun {b o} e n z => by
    rw [z, p1] at e
    exact n _ (Option.some.inj e).symm
  refine ⟨ps, g _ _ (ne h1 (fun _ z => by cases z)) h1, h2, fun pos cv hc => ?_⟩
  obtain ⟨c, e1, e2⟩ := h3 pos cv hc
  exact ⟨c, e1, g _ _ (ne e2 (fun _ z => by cases z)) e2⟩
theorem Tabs.same {T : List (Addr × Str)} {H H' : Hp} (t : Tabs T H) (g : Same H H') : Tabs T H' := t.ext g
/-! ### the end -/
theorem walk_ofTT {l : OpenLaw} {n k : Nat} {q : Program} {loose : List Str} {XP : (Str → Option Value) → Heap → Prop} {YP : World → Heap → Prop} {d : DefRec} {K : Params → Frag} {x : Str}
    (hn : l.most = some n) (hn2 : n ≤ sizeLine) (hdf : d.params.defaults = []) (hr : Room k callerA) (hY : ∀ (w : World) (h : Heap), YP w h → (K w.params).In h)
    (F : ∀ (w : World) (mg : Str → Option Value) (fa : Addr) (h : Heap), YP w h →
      (K w.params).In h → h.Ns mainGlobals mg → mg d.name = some (.ref fa) →
      ∃ (fd : FuncData) (cs : List (Addr × Addr)) (sp : Sp), (∀ p ∈ cs, h.get? p.2 = some { cls := .none, data := .fields #[] }) ∧ (∀ p ∈ cs, (K w.params).lookup p.2 = none) ∧ (∀ p ∈ cs, CodeHd h p.1 p.2) ∧ (∀ (s : Shared) (u : Value), BindsTo s fd ⟨[u], []⟩ [(x, u)]) ∧
        (∀ (H : Hp) (a : Addr) (ns : List Int), ns.length ≤ n → (∀ p ∈ cs, H p.2 = some (.tbl #[])) → SqL (K w.params) H a (ns.map V.int) → sp [.ref a] H (fun v _ => v = .bl true) fun _ _ _ => False) ∧
        ∀ base : Heap, (K w.params).In base → base.Ns mainGlobals mg → (∀ p ∈ cs, TabB base mg p.1 p.2) → FnOk l.prog w (K w.params) mg base CX0 k fa fd [x] sp) :
    WalkO q loose XP YP l.row.toRowW d [] (fun f vs => PySem.call f vs) := by
  refine Att.attach_call hn hdf fun w s₀ s₁ mg mb fa o pm cd doc a vs ns G Y ho hd hcd hmg hobj hints hlen hg => ?_
  have KX := hY w _ Y
  obtain ⟨fd, cs, sp, hT, nT, C, hb, hsp, hF⟩ := F w mg fa _ Y KX G.T.g hmg
  exact law_callTs KX G.T.g G.T.b G.T.builtins G.T.nolimit hg hT nT C G.T.bmain hobj hints (Nat.le_trans hlen hn2) hr hF hb (fun H hH hS => hsp H a ns hlen hH hS) fun H e s' z => z
end Ol

namespace Ol
open PySem PySem.Spec PyProof.Rows L2
/-! ### the pen with its cells told -/
def PenAt (p l : Addr) (H : Hp) (n : Nat) : Prop := ∃ (cells : List Int) (spot great : Int), H p = some (.lst [.ref l, .int spot, .int great]) ∧ l ≠ p ∧ H l = some (.lst (cells.map V.int)) ∧ 0 ≤ spot ∧ spot + n ≤ 4000000 ∧ 0 ≤ great ∧ cells.length ≤ 63
theorem PenAt.pen {p l : Addr} {H : Hp} {n : Nat} (h : PenAt p l H n) : Pen p H n := ⟨l, h⟩
theorem PenAt.le {p l : Addr} {H : Hp} {m n : Nat} (h : PenAt p l H n) (le : m ≤ n) : PenAt p l H m := by
  obtain ⟨c, s, g, h1, h2, h3, h4, h5, h6, h7⟩ := h
  exact ⟨c, s, g, h1, h2, h3, h4, by omega, h6, h7⟩
theorem PenAt.same {p l : Addr} {H H' : Hp} {n : Nat} (h : PenAt p l H n) (s : Same H H') : PenAt p l H' n := by
  obtain ⟨c, sp, g, h1, h2, h3, h4⟩ := h
  exact ⟨c, sp, g, s _ _ h1, h2, s _ _ h3, h4⟩
theorem PenAt.set {p l a : Addr} {H : Hp} {n : Nat} {o : HO} (h : PenAt p l H n) (n1 : a ≠ p) (n2 : a ≠ l) : PenAt p l (upd H a o) n := by
  obtain ⟨c, sp, g, h1, h2, h3, h4⟩ := h
  exact ⟨c, sp, g, by rw [upd_ne (Ne.symm n1)]; exact h1, h2, by rw [upd_ne (Ne.symm n2)]; exact h3, h4⟩
def spDrawL : Sp := fun vs H Q _ => ∃ (p l : Addr) (many : Int) (n : Nat), vs = [.ref p, .int many] ∧ 0 < many ∧ many.natAbs < 2 ^ 250 ∧ PenAt p l H (n + 1) ∧ ∀ (d : Int) (H' : Hp), Go p H H' → PenAt p l H' n → 0 ≤ d → d < many → Q (.int d) H'
theorem fn_weak {P : Program} {w : World} {K : PySem.W.Frag} {mg : Str → Option Value} {base : Heap} {CX : CXT} {k : Nat} {f : Addr} {fd : FuncData} {ps : List Str} {sp sp' : Sp} (F : FnOk P w K mg base CX k f fd ps sp) (h : ∀ vs H Q E, sp' vs H Q E → sp vs H Q E) : FnOk P w K mg base CX k f fd ps sp' :=
  ⟨fun vs H Q E z => F.len _ _ _ _ (h _ _ _ _ z), fun A o s H a u v Q E hr e0 hb r z => F.run A o s H a u v Q E hr e0 hb r (h _ _ _ _ z)⟩
theorem draw_weak {vs : List V} {H : Hp} {Q : VK} {E : XK} (h : spDraw vs H Q E) : spDrawL vs H Q E := by
  obtain ⟨p, many, n, e, h0, h1, ⟨l, pen⟩, q⟩ := h
  exact ⟨p, l, many, n, e, h0, h1, pen, fun d H' g pen' => q d H' g pen'.pen⟩
/-! ### names -/
def letters : Str := "abcdefghijklmnopqrstuvwxyz"
def isLet (c : Nat) : Bool := !(Builtin.Str.occurrences letters ⟨#[c]⟩ 0 letters.length 1).isEmpty
def isName (z : Str) : Bool := decide (1 ≤ z.length ∧ z.length ≤ 8) && z.cps.toList.all isLet
def NoStr (K : PySem.W.Frag) (H : Hp) (x : V) : Prop := ∃ t, TyX K H x t ∧ PySem.W.kitOne K t (.type "str") = some false
def spIsName (K : PySem.W.Frag) : Sp := fun vs H Q _ => ∃ x, vs = [x] ∧ ((∃ z, x = .str z ∧ z.length ≤ 1000 ∧ ∀ H', Same H H' → Q (.bl (isName z)) H') ∨ (NoStr K H x ∧ Q (.bl false) H))
def spNumber (K : PySem.W.Frag) : Sp := fun vs H Q _ => ∃ x, vs = [x] ∧ ((∃ i, x = .int i ∧ Q (.bl (decide (0 ≤ i ∧ i ≤ 1000000000000))) H) ∨ (NoInt K H x ∧ Q (.bl false) H))
section
variable {K : PySem.W.Frag} {σ : L2.St} {H : Hp} {Q : VK} {te ta : TE} {g : TG} {t : TT} {vs : List Nat} {a : Addr}
theorem t_lcS (h : ta σ H fun x H1 => ∃ z, x = .str z ∧ ∀ D, H1 D = none → LcW (Its z) g t te vs σ H1 D Q) : tLc (iStr ta) g t te vs σ H Q := h
/-- one item for each turn, the heap left -/
theorem lc_map {J : L2.It} {n : Nat} {G : Hp → Prop} {Y : Nat → Hp → V → Hp → Prop} (w : Walk J n G Y) {D : Addr} {F xf : Nat → V} (hn : n ≤ 1000) (hy : ∀ i H x H', i < n → Y i H x H' → H' = H ∧ x = xf i) (hG : ∀ l, G (upd H D (.lst l)))
    (ht : ∀ (i : Nat) (R : L2.St → V → Hp → Prop) (l : List V), i < n → (∀ σ2, R σ2 (F i) (upd H D (.lst l))) → g (xf i) (wipe σ vs) (upd H D (.lst l)) fun σ2 H2 => wipe σ2 vs = wipe σ vs ∧ te σ2 H2 (R σ2)) (q : Q (.ref D) (upd H D (.lst ((List.range n).map F)))) : LcW J g tYes te vs σ H D Q := by
  refine lc_it w (Qd := fun H' => Q (.ref D) H') (fun i H' => H' = upd H D (.lst ((List.range i).map F))) rfl (fun i H' _ e => e ▸ hG _) (fun i x H1 H2 hi e y => ?_) fun H' e => e ▸ q
  obtain ⟨e1, e2⟩ := hy i H1 x H2 hi y
  subst e1 e2 e
  refine ht i (fun σ2 y H4 => ∃ acc, H4 D = some (.lst acc) ∧ acc.length < sizeLine ∧ upd H4 D (.lst (acc ++ [y])) = upd H D (.lst ((List.range (i + 1)).map F))) _ hi fun σ2 => ⟨_, upd_same, ?_, ?_⟩
  · rw [List.length_map, List.length_range]
    exact Nat.lt_of_lt_of_le hi (Nat.le_trans hn (by decide))
  · funext b
    by_cases hb : b = D
    · rw [hb, upd_same, upd_same, List.range_succ, List.map_append]
      rfl
    · rw [upd_ne hb, upd_ne hb, upd_ne hb]
theorem map_cps (z : Str) (f : Nat → V) : (List.range z.cps.size).map (fun i => f (z.cps.getD i 0)) = z.cps.toList.map f := by
  apply List.ext_getElem
  · simp
  · intro i h1 h2
    have hi : i < z.cps.size := by simpa using h1
    simp [Array.getD, hi]
theorem lcS_map {z : Str} {D : Addr} {f : Nat → V} (hz : z.length ≤ 1000)
    (ht : ∀ (c : Nat) (R : L2.St → V → Hp → Prop) (l : List V), (∀ σ2, R σ2 (f c) (upd H D (.lst l))) → g (.str ⟨#[c]⟩) (wipe σ vs) (upd H D (.lst l)) fun σ2 H2 => wipe σ2 vs = wipe σ vs ∧ te σ2 H2 (R σ2)) (q : Q (.ref D) (upd H D (.lst (z.cps.toList.map f)))) : LcW (Its z) g tYes te vs σ H D Q := by
  rw [← map_cps] at q
  refine lc_map walk_str (xf := fun i => .str ⟨#[z.cps.getD i 0]⟩) hz (fun i H x H' hi y => ?_) (fun _ => trivial) (fun i R l hi h => ht _ R l h) q
  obtain ⟨e, c, h1, h2⟩ := y
  refine ⟨e, ?_⟩
  rw [h2, Array.getD_eq_getD_getElem?, h1]
  rfl
theorem NoStr.non : NoStr K H .non := ⟨_, .base .non, kit_ty (by decide +kernel)⟩
theorem NoStr.bl (b : Bool) : NoStr K H (.bl b) := ⟨_, .base (.bl b), kit_ty (by decide +kernel)⟩
theorem NoStr.int (i : Int) : NoStr K H (.int i) := ⟨_, .base (.int i), kit_ty (by decide +kernel)⟩
theorem NoStr.lst {xs : List V} (h : H a = some (.lst xs)) : NoStr K H (.ref a) := ⟨_, .base (.lst h), kit_ty (by decide +kernel)⟩
theorem NoStr.tup {xs : List V} (h : H a = some (.tup xs)) : NoStr K H (.ref a) := ⟨_, .base (.tup h), kit_ty (by decide +kernel)⟩
theorem NoStr.dK {kvs : List (Key × V)} (h : H a = some (.dK kvs)) : NoStr K H (.ref a) := ⟨_, .base (.dK h), kit_ty (by decide +kernel)⟩
end
end Ol

namespace Ol
open PySem PySem.Spec PyProof.Rows L2
theorem t_mkO {σ : L2.St} {H : Hp} {C : Addr} {sp : Sp} {dvs : List V} {ta : TA} {Q : XK} (h : ta σ H fun vs H1 => vs.length ≤ 1000 ∧ ∀ a, H1 a = none → sp (.ref a :: (vs ++ dvs)) (upd H1 a (exo a C none))
  (fun v H2 => v = .non ∧ ∃ (d : Addr) (fs : List (Str × V)), H2 a = some (exo a C (some d)) ∧ H2 d = some (exd d fs) ∧ H1 d = none ∧ Q (.ref C) (some d) (upd (del H2 a) d (.xd fs))) (fun _ _ _ => False)) : tMkO C sp dvs ta σ H Q := h
theorem takes_len {X : Cx} {W : WX} (t : Takes X W) : Takes X (fun cls d σ H => σ.length = X.N.length → W cls d σ H) := fun u s' ⟨a, B, sI, pins, σ, H, cls, d, e, I, nb, up, sky, na, os, ag, w⟩ =>
  t u s' ⟨a, B, sI, pins, σ, H, cls, d, e, I, nb, up, sky, na, os, ag, w I.len⟩
theorem r_isN {x : V} {H : Hp} {Q : VK} (h : Q (.bl (decide (x = .non))) H) : (fun x y H (Q : VK) => y = V.non ∧ Q (.bl (decide (x = .non))) H) x .non H Q := ⟨rfl, h⟩
theorem t_fldE {K : PySem.W.Frag} {σ : L2.St} {H : Hp} {Q : VK} {te : TE} {f : Str} (h : te σ H fun x H1 => ∃ (a C : Addr) (fs : List (Str × V)) (v : V), x = .ref a ∧ ErrAt H1 a C fs ∧ XfC K C ∧ PySem.W.findIn K (.ref C) f = some none ∧ fs.lookup f = some v ∧ Q v H1) : tFldE K te f σ H Q := h
/-! ### values in the places of a trip -/
def NameV (K : PySem.W.Frag) (H : Hp) (x : V) (b : Bool) : Prop := (∃ z, x = .str z ∧ z.length ≤ 1000 ∧ isName z = b) ∨ ((∀ H', Same H H' → NoStr K H' x) ∧ b = false)
def NumV (K : PySem.W.Frag) (H : Hp) (x : V) (lo : Int) (b : Bool) : Prop := (∃ i, x = .int i ∧ decide (lo ≤ i ∧ i ≤ 1000000000000) = b) ∨ ((∀ H', Same H H' → NoInt K H' x) ∧ b = false)
section
variable {K : PySem.W.Frag} {H H' : Hp} {x : V} {b : Bool} {lo : Int} {Q : VK} {E : XK}
theorem NameV.same (n : NameV K H x b) (s : Same H H') : NameV K H' x b := by
  rcases n with n | ⟨n, e⟩
  · exact .inl n
  · exact .inr ⟨fun H2 s2 => n H2 (s.trans s2), e⟩
theorem NumV.same (n : NumV K H x lo b) (s : Same H H') : NumV K H' x lo b := by
  rcases n with n | ⟨n, e⟩
  · exact .inl n
  · exact .inr ⟨fun H2 s2 => n H2 (s.trans s2), e⟩
theorem u_name (n : NameV K H x b) (q : ∀ H', Same H H' → Q (.bl b) H') : spIsName K [x] H Q E := by
  rcases n with ⟨z, rfl, hz, rfl⟩ | ⟨n, rfl⟩
  · exact ⟨_, rfl, .inl ⟨z, rfl, hz, q⟩⟩
  · exact ⟨_, rfl, .inr ⟨n H fun _ _ e => e, q H fun _ _ e => e⟩⟩
theorem u_number (n : NumV K H x 0 b) (q : Q (.bl b) H) : spNumber K [x] H Q E := by
  rcases n with ⟨i, rfl, rfl⟩ | ⟨n, rfl⟩
  · exact ⟨_, rfl, .inl ⟨i, rfl, q⟩⟩
  · exact ⟨_, rfl, .inr ⟨n H fun _ _ e => e, q⟩⟩
theorem u_between (n : NumV K H x lo b) (q : Q (.bl b) H) : spBetween K [x, .int lo, .int 1000000000000] H Q E := by
  rcases n with ⟨i, rfl, rfl⟩ | ⟨n, rfl⟩
  · exact ⟨_, _, _, rfl, .inl ⟨i, rfl, q⟩⟩
  · exact ⟨_, _, _, rfl, .inr ⟨n H fun _ _ e => e, q⟩⟩
end
/-- the first part that is wrong -/
def dueOf (bn bs bl bt bg : Bool) : Option Str := if bn = false then some "name" else if bs = false ∨ bg = false then some "place" else if bl = false then some "leaves" else if bt = false then some "takes" else none
def tripFs (n s l t g : V) : List (Str × V) := putF "goal" g (putF "takes" t (putF "leaves" l (putF "start" s (putF "name" n []))))
structure TripC (K : PySem.W.Frag) (C : Addr) : Prop where
  cl : Cls K C
  name : NoAttr K C "name"
  start : NoAttr K C "start"
  leaves : NoAttr K C "leaves"
  takes : NoAttr K C "takes"
  goal : NoAttr K C "goal"
/-- what stands in the places of a trip -/
structure Parts (K : PySem.W.Frag) (H : Hp) (n s l t g : V) (bn bs bl bt bg : Bool) : Prop where
  n : NameV K H n bn
  s : NameV K H s bs
  l : NumV K H l 0 bl
  t : NumV K H t 1 bt
  g : NameV K H g bg
theorem Parts.same {K : PySem.W.Frag} {H H' : Hp} {n s l t g : V} {bn bs bl bt bg : Bool} (p : Parts K H n s l t g bn bs bl bt bg) (e : Same H H') : Parts K H' n s l t g bn bs bl bt bg := ⟨p.n.same e, p.s.same e, p.l.same e, p.t.same e, p.g.same e⟩
def spTrip (K : PySem.W.Frag) (BT : Addr) : Sp := fun vs H Q E => ∃ (a C dx : Addr) (n s l t g : V) (bn bs bl bt bg : Bool), vs = [.ref a, n, s, l, t, g] ∧ H a = some (.ins C dx []) ∧ TripC K C ∧ Parts K H n s l t g bn bs bl bt bg ∧
  (∀ w, dueOf bn bs bl bt bg = some w → ∀ H', Same H H' → Rz BT [("part", .str w)] H' E) ∧ (dueOf bn bs bl bt bg = none → ∀ H', Same H H' → Q .non (upd H' a (.ins C dx (tripFs n s l t g))))
def spRun (K : PySem.W.Frag) (C BT : Addr) : Sp := fun vs H Q E => ∃ (a dx : Addr) (n s l t g : V), vs = [.ref a, n, s, l, t, g] ∧ H a = some (.ins C dx []) ∧ spTrip K BT vs H Q E
def spStay (K : PySem.W.Frag) (C BT : Addr) : Sp := fun vs H Q E => ∃ (a dx : Addr) (n s l t : V), vs = [.ref a, n, s, l, t] ∧ H a = some (.ins C dx []) ∧ spTrip K BT [.ref a, n, s, l, t, s] H Q E
/-! ### within a comprehension: the written part told -/
section
variable {X : Cx} {K : PySem.W.Frag}
theorem ix_listK (h : X.K = K) : IxR X (rIxL K) := by subst h; exact ix_list
theorem ix_tupK (h : X.K = K) : IxR X (rIxT K) := by subst h; exact ix_tup
theorem op_inK (h : X.K = K) : OpR X (compareOp .In) (rIn K false) := by subst h; exact op_in_seq
theorem op_notInK (h : X.K = K) : OpR X (compareOp .NotIn) (rIn K true) := by subst h; exact op_notIn_seq
theorem op_eqDK (h : X.K = K) (hu : X.A.units + 64 < cLine) : OpR X (compareOp .Eq) (rEqD K) := by subst h; exact op_eqD hu
theorem op_neDK (h : X.K = K) (hu : X.A.units + 64 < cLine) : OpR X (compareOp .NotEq) (rNeD K) := by subst h; exact op_neD hu
theorem pe_fldK {e : Expr} {ta : TE} {f : Str} {pos : Pos} (h : X.K = K) (he : PE X e ta) (hb : attributeBase e f X.env (eval e X.env) = eval e X.env) : PE X (.Attribute e f pos) (tFld K ta f) := by subst h; exact pe_fld he hb
theorem call_lenK (h : X.K = K) : CallR X (.builtin "len") (fun xs H Q => ∃ p ys, xs = [.ref p] ∧ (SqL K H p ys ∨ SqT K H p ys) ∧ Q (.int ys.length) H) := by subst h; exact call_len_seq
theorem call_isiK' (h : X.K = K) : CallR X (.builtin "isinstance") (rIsi K) := by subst h; exact call_isi
end
theorem upd2 {H : Hp} {a : Addr} {o1 o2 : HO} : upd (upd H a o1) a o2 = upd H a o2 := by
  funext b
  by_cases hb : b = a
  · rw [hb, upd_same, upd_same]
  · rw [upd_ne hb, upd_ne hb, upd_ne hb]
/-- some items are kept, the heap left -/
theorem lcL_filter {K : PySem.W.Frag} {σ : L2.St} {H : Hp} {Q : VK} {te : TE} {g : TG} {t : TT} {vs : List Nat} {a D : Addr} {xs : List V} {f : V → Bool} (hx : xs.length ≤ 1000) (hs : ∀ l, SqL K (upd H D (.lst l)) a xs)
    (ht : ∀ x ∈ xs, ∀ (R : V → Hp → Prop) (N : Hp → Prop) (l : List V), (f x = true → R x (upd H D (.lst l))) → (f x = false → N (upd H D (.lst l))) → g x (wipe σ vs) (upd H D (.lst l)) fun σ2 H2 => wipe σ2 vs = wipe σ vs ∧ t σ2 H2 fun b H3 => if b = true then te σ2 H3 R else N H3)
    (q : Q (.ref D) (upd H D (.lst (xs.filter f)))) : LcW (Itl K a) g t te vs σ H D Q := by
  refine lc_list (Qd := fun H' => Q (.ref D) H') (xs := xs) (fun i H' => H' = upd H D (.lst ((xs.take i).filter f))) (by simp) (fun i H' _ e => e ▸ hs _) (fun i x H' hx' e => ?_) fun H' e => by rw [List.take_length] at e; exact e ▸ q
  subst e
  have tk : xs.take (i + 1) = xs.take i ++ [x] := by rw [List.take_succ, hx']; rfl
  refine ht x (List.mem_of_getElem? hx') (fun y H4 => ∃ acc, H4 D = some (.lst acc) ∧ acc.length < sizeLine ∧ upd H4 D (.lst (acc ++ [y])) = upd H D (.lst ((xs.take (i + 1)).filter f))) (fun H3 => H3 = upd H D (.lst ((xs.take (i + 1)).filter f))) _ (fun h => ⟨_, upd_same, ?_, ?_⟩) fun h => ?_
  · refine Nat.lt_of_le_of_lt (List.length_filter_le _ _) ?_
    rw [List.length_take]
    exact Nat.lt_of_le_of_lt (Nat.le_trans (Nat.min_le_right _ _) hx) (by decide)
  · rw [upd2, tk, List.filter_append, List.filter_cons_of_pos h]
    rfl
  · rw [tk, List.filter_append, List.filter_cons_of_neg (by rw [h]; decide)]
    simp
theorem filter_empty {α : Type} (p : α → Bool) : ∀ l : List α, (l.filter p).isEmpty = !(l.any p)
  | [] => rfl
  | a :: l => by
    cases h : p a with
    | true => rw [List.filter_cons_of_pos h, List.any_cons, h]; rfl
    | false => rw [List.filter_cons_of_neg (by rw [h]; decide), List.any_cons, h, Bool.false_or]; exact filter_empty p l
/-! ### values of all kinds beside the pen -/
def OddV (p : Addr) (H : Hp) : V → Prop
  | .non => True
  | .bl _ => True
  | .int _ => True
  | .str z => z.length ≤ 1000
  | .ref a => a ≠ p ∧ ((∃ xs, H a = some (.lst xs)) ∨ (∃ xs, H a = some (.tup xs)) ∨ ∃ kvs, H a = some (.dK kvs))
  | _ => False
def nameB : V → Bool
  | .str z => isName z
  | _ => false
def numB (lo : Int) : V → Bool
  | .int i => decide (lo ≤ i ∧ i ≤ 1000000000000)
  | _ => false
section
variable {K : PySem.W.Frag} {p : Addr} {H H' : Hp} {x : V}
theorem OddV.got (o : OddV p H x) (g : GoT p H H') : OddV p H' x := by
  cases x with
  | ref a =>
    obtain ⟨n, ⟨xs, h⟩ | ⟨xs, h⟩ | ⟨xs, h⟩⟩ := o
    · exact ⟨n, .inl ⟨xs, g _ _ n (fun _ z => by cases z) h⟩⟩
    · exact ⟨n, .inr (.inl ⟨xs, g _ _ n (fun _ z => by cases z) h⟩)⟩
    · exact ⟨n, .inr (.inr ⟨xs, g _ _ n (fun _ z => by cases z) h⟩)⟩
  | _ => exact o
theorem OddV.name (o : OddV p H x) : NameV K H x (nameB x) := by
  cases x with
  | non => exact .inr ⟨fun _ _ => .non, rfl⟩
  | bl b => exact .inr ⟨fun _ _ => .bl b, rfl⟩
  | int i => exact .inr ⟨fun _ _ => .int i, rfl⟩
  | str z => exact .inl ⟨z, rfl, o, rfl⟩
  | ref a =>
    obtain ⟨n, ⟨xs, h⟩ | ⟨xs, h⟩ | ⟨xs, h⟩⟩ := o
    · exact .inr ⟨fun _ s => .lst (s _ _ h), rfl⟩
    · exact .inr ⟨fun _ s => .tup (s _ _ h), rfl⟩
    · exact .inr ⟨fun _ s => .dK (s _ _ h), rfl⟩
  | _ => exact o.elim
theorem OddV.num {lo : Int} (o : OddV p H x) : NumV K H x lo (numB lo x) := by
  cases x with
  | non => exact .inr ⟨fun _ _ => .non, rfl⟩
  | bl b => exact .inr ⟨fun _ _ => .bl b, rfl⟩
  | int i => exact .inl ⟨i, rfl, rfl⟩
  | str z => exact .inr ⟨fun _ _ => .str z, rfl⟩
  | ref a =>
    obtain ⟨n, ⟨xs, h⟩ | ⟨xs, h⟩ | ⟨xs, h⟩⟩ := o
    · exact .inr ⟨fun _ s => .lst (s _ _ h), rfl⟩
    · exact .inr ⟨fun _ s => .tup (s _ _ h), rfl⟩
    · exact .inr ⟨fun _ s => .dK (s _ _ h), rfl⟩
  | _ => exact o.elim
end
theorem t_dnew {σ : L2.St} {H : Hp} {Q : VK} (h : ∀ p, H p = none → Q (.ref p) (upd H p (.dK []))) : tDNewK σ H Q := h
def optV : Option Str → V
  | none => .non
  | some z => .str z
/-- a trip made, or refused, under heard -/
theorem mk_trip {K : PySem.W.Frag} {H : Hp} {C BT : Addr} {n s l t g : V} {bn bs bl bt bg : Bool} {Ech : XK} {Qc R : VK} (tc : TripC K C) (pa : Parts K H n s l t g bn bs bl bt bg)
    (hE : ∀ v dd H', H' dd = some (.xd [("part", v)]) → (∀ H'', Same H' H'' → R v H'') → Ech (.ref BT) (some dd) H') (hQ : ∀ v H1, R .non H1 → Qc v H1) (q : ∀ H', Same H H' → R (optV (dueOf bn bs bl bt bg)) H') {x dx : Addr} (hx : H x = none) (hd : H dx = none) :
    spTrip K BT [.ref x, n, s, l, t, g] (upd (upd H dx (.own x)) x (.ins C dx [])) (fun v H2 => v = .non ∧ Qc (.ref x) H2) Ech := by
  have S : Same H (upd (upd H dx (.own x)) x (.ins C dx [])) := fun b o e => by rw [upd_ne (ne_of_none e hx), upd_ne (ne_of_none e hd)]; exact e
  refine ⟨x, C, dx, n, s, l, t, g, bn, bs, bl, bt, bg, rfl, upd_same, tc, pa.same S, fun w hw H' S' d H'' _ S'' hxd => hE _ d H'' hxd fun H3 S3 => ?_, fun hn H' S' => ⟨rfl, hQ _ _ ?_⟩⟩
  · rw [hw] at q
    exact q H3 (((S.trans S').trans S'').trans S3)
  · rw [hn] at q
    refine q _ fun b o e => ?_
    rw [upd_ne (ne_of_none e hx)]
    exact (S.trans S') b o e
theorem inV_ints (n : Nat) : ∀ ns : List Nat, inV (.int (n : Int)) (ns.map fun (k : Nat) => V.int (k : Int)) = decide (n ∈ ns)
  | [] => rfl
  | k :: r => by
    have ih := inV_ints n r
    unfold inV at ih ⊢
    rw [List.map_cons, List.any_cons, ih]
    by_cases h : n = k
    · subst h; simp [eqV]
    · have e : eqV (.int (k : Int)) (.int (n : Int)) = false := by simp [eqV]; omega
      rw [e]; simp [h]
theorem t_bm {K : PySem.W.Frag} {T : String} {r : V → List V → Hp → VK → Prop} {to : TE} {t : TA} {σ : L2.St} {H : Hp} {Q : VK} (h : to σ H fun x H1 => tyV K T x H1 ∧ t σ H1 fun xs H2 => r x xs H2 Q) : tBM K T r to t σ H Q := h
theorem t_lam {T : List (Addr × Str)} {TT : (XK → Hp → VK → Prop) → Hp → VK → Prop} {t : XK → TE} {σ : L2.St} {H : Hp} {Q : VK} (tab : LamX.Tabs T H) (h : ∀ H1, LamX.ExtN H H1 → LamX.Tabs T H1 → TT (fun E H' Q' => t E σ H' Q') H1 Q) : LamX.tLam T TT t σ H Q := ⟨tab, h⟩
theorem odd_if {p : Addr} {H : Hp} {c : Prop} [Decidable c] {a b : V} {B : V → Bool} (h1 : OddV p H a) (h2 : OddV p H b) (h3 : B a = false) (h4 : B b = true) : OddV p H (if c then a else b) ∧ B (if c then a else b) = !decide c := by
  by_cases h : c
  · rw [if_pos h, decide_eq_true h]; exact ⟨h1, h3⟩
  · rw [if_neg h, decide_eq_false h]; exact ⟨h2, h4⟩
theorem Tabs.upd {T : List (Addr × Str)} {H : Hp} {a : Addr} {xs : List V} {o : HO} (t : LamX.Tabs T H) (h : H a = some (.lst xs)) : LamX.Tabs T (upd H a o) := fun q hq => by
  obtain ⟨ps, h1, h2, h3⟩ := t q hq
  have ne : ∀ {b : Addr} {u : HO}, H b = some u → (∀ xs, u ≠ .lst xs) → b ≠ a := fun {b u} e n z => by
    rw [z, h] at e
    exact n _ (Option.some.inj e).symm
  refine ⟨ps, by rw [upd_ne (ne h1 (fun _ z => by cases z))]; exact h1, h2, fun pos cv hc => ?_⟩
  obtain ⟨c, e1, e2⟩ := h3 pos cv hc
  exact ⟨c, e1, by rw [upd_ne (ne e2 (fun _ z => by cases z))]; exact e2⟩
end Ol

namespace Ol
open PySem
def words : List Str := ["name", "place", "leaves", "takes", "place"]
/-- the first word of some places -/
def dueW (ns : List Nat) : Option Str := (["name", "place", "leaves", "takes"] : List Str).find? fun wd => (ns.any fun n => words[n]? == some wd)
theorem any_word {ns : List Nat} (h : ∀ n ∈ ns, n < 5) {wd : Str} (f : Nat → Bool) (hf : ∀ n, n < 5 → (words[n]? == some wd) = f n) : (ns.any fun n => words[n]? == some wd) = ns.any f := by
  rw [Bool.eq_iff_iff, List.any_eq_true, List.any_eq_true]
  constructor
  · rintro ⟨n, h1, h2⟩
    exact ⟨n, h1, by rw [← hf n (h n h1)]; exact h2⟩
  · rintro ⟨n, h1, h2⟩
    exact ⟨n, h1, by rw [hf n (h n h1)]; exact h2⟩
theorem any_one (ns : List Nat) (k : Nat) : (ns.any fun n => n == k) = decide (k ∈ ns) := by
  rw [Bool.eq_iff_iff, List.any_eq_true, decide_eq_true_iff]
  constructor
  · rintro ⟨n, h1, h2⟩
    rw [← beq_iff_eq.mp h2]; exact h1
  · exact fun h => ⟨k, h, by simp⟩
theorem any_two (ns : List Nat) (k j : Nat) : (ns.any fun n => n == k || n == j) = (decide (k ∈ ns) || decide (j ∈ ns)) := by
  rw [← any_one, ← any_one, Bool.eq_iff_iff, Bool.or_eq_true, List.any_eq_true, List.any_eq_true, List.any_eq_true]
  constructor
  · rintro ⟨n, h1, h2⟩
    rcases Bool.or_eq_true_iff.mp h2 with h | h
    · exact .inl ⟨n, h1, h⟩
    · exact .inr ⟨n, h1, h⟩
  · rintro (⟨n, h1, h⟩ | ⟨n, h1, h⟩)
    · exact ⟨n, h1, by rw [h]; rfl⟩
    · exact ⟨n, h1, by rw [h, Bool.or_true]⟩
theorem dueW_eq {ns : List Nat} (h : ∀ n ∈ ns, n < 5) : dueW ns = dueOf (!decide (0 ∈ ns)) (!decide (1 ∈ ns)) (!decide (2 ∈ ns)) (!decide (3 ∈ ns)) (!decide (4 ∈ ns)) := by
  have e1 := (any_word h (wd := "name") (fun n => n == 0) (by decide +kernel)).trans (any_one ns 0)
  have e2 := (any_word h (wd := "place") (fun n => n == 1 || n == 4) (by decide +kernel)).trans (any_two ns 1 4)
  have e3 := (any_word h (wd := "leaves") (fun n => n == 2) (by decide +kernel)).trans (any_one ns 2)
  have e4 := (any_word h (wd := "takes") (fun n => n == 3) (by decide +kernel)).trans (any_one ns 3)
  unfold dueW dueOf
  simp only [List.find?, e1, e2, e3, e4]
  cases decide (0 ∈ ns) <;> cases decide (1 ∈ ns) <;> cases decide (2 ∈ ns) <;> cases decide (3 ∈ ns) <;> cases decide (4 ∈ ns) <;> rfl
theorem dueW_lone {ns : List Nat} (h : ∀ n ∈ ns, n < 5) : dueW (ns.filter fun n => decide (n < 4)) = dueOf (!decide (0 ∈ ns)) (!decide (1 ∈ ns)) (!decide (2 ∈ ns)) (!decide (3 ∈ ns)) (!decide (1 ∈ ns)) := by
  rw [dueW_eq fun n hn => h n (List.mem_filter.mp hn).1]
  have m : ∀ k, k < 4 → decide (k ∈ ns.filter fun n => decide (n < 4)) = decide (k ∈ ns) := fun k hk => by
    rw [Bool.eq_iff_iff, decide_eq_true_iff, decide_eq_true_iff, List.mem_filter]
    exact ⟨fun z => z.1, fun z => ⟨z, decide_eq_true hk⟩⟩
  have m4 : decide (4 ∈ ns.filter fun n => decide (n < 4)) = false := decide_eq_false fun z => by
    have := of_decide_eq_true (List.mem_filter.mp z).2
    omega
  rw [m 0 (by decide), m 1 (by decide), m 2 (by decide), m 3 (by decide), m4]
  unfold dueOf
  cases decide (0 ∈ ns) <;> cases decide (1 ∈ ns) <;> rfl
def optD : Option Str → PyData
  | none => .none
  | some z => .str z
theorem dp_opt {K : PySem.W.Frag} {H : L2.Hp} : ∀ o : Option Str, L2.Dp K H (optV o) (optD o)
  | none => .non
  | some z => .str z
theorem due_ok (a b c d e : Bool) : PyData.canLay0 (optD (dueOf a b c d e)) = true := by
  cases a <;> cases b <;> cases c <;> cases d <;> cases e <;> decide +kernel
theorem shaped4 {x y : Option Str} (hx : (optD x).canLay0 = true) (hy : (optD y).canLay0 = true) : SeqAt.shaped (.list [optD x, optD x, optD y, optD y]) = true := by
  have h1 : PyData.canLay0 (.list [optD x, optD x, optD y, optD y]) = true := by
    show ((optD x).canLay0 && ((optD x).canLay0 && ((optD y).canLay0 && ((optD y).canLay0 && true)))) = true
    rw [hx, hy]; rfl
  unfold SeqAt.shaped
  rw [h1, Bool.true_and]
  cases x <;> cases y <;> rfl
end Ol

namespace Ol
open PySem PySem.Spec PyProof.Rows L2
theorem op_cmpOK {X : Cx} {K : PySem.W.Frag} {CX : CXT} {k : Nat} {C f : Addr} {fd : FuncData} {ps : List Str} {sp : Sp} {E : XK} {op : CmpOp} (h : X.K = K) (hop : ∀ a b, compareOp op a b = richCompare op a b) (R : CmpOf K C op f) (F : FnOk X.prog X.w K X.mg X.base CX k f fd ps sp) (hr : Room k X.A) (hb : L2.Binds K fd ps []) (hx : Passes CX X E) :
    OpR X (compareOp op) (rCmpO K C sp E) := by subst h; exact op_cmpO hop R F hr hb hx
/-! ### trips as they stand -/
theorem let_lt {c : Nat} (h : isLet c = true) : c < 0x110000 := by
  unfold isLet at h
  rw [StrLaws.found_one] at h
  have m : c ∈ letters.cps.toList := by simpa using h
  have all : ∀ d ∈ letters.cps.toList, d < 0x110000 := by decide +kernel
  exact all c m
theorem name_ok {z : Str} (h : isName z = true) : PyData.strOk z = true ∧ z.length ≤ 8 := by
  unfold isName at h
  rw [Bool.and_eq_true, decide_eq_true_eq] at h
  refine ⟨?_, h.1.2⟩
  unfold PyData.strOk
  rw [Array.all_eq_true']
  intro c hc
  exact decide_eq_true (let_lt (List.all_eq_true.mp h.2 c (by simpa using hc)))
/-- right parts -/
structure TripOk (n s : Str) (l t : Int) (g : Str) : Prop where
  n : isName n = true
  s : isName s = true
  g : isName g = true
  l : 0 ≤ l ∧ l ≤ 1000000000000
  t : 1 ≤ t ∧ t ≤ 1000000000000
def TripAt (H : Hp) (a C : Addr) (n s : Str) (l t : Int) (g : Str) : Prop := TripOk n s l t g ∧ ∃ dx, H a = some (.ins C dx (tripFs (.str n) (.str s) (.int l) (.int t) (.str g)))
theorem TripAt.same {H H' : Hp} {a C : Addr} {n s g : Str} {l t : Int} (x : TripAt H a C n s l t g) (e : Same H H') : TripAt H' a C n s l t g := let ⟨o, dx, h⟩ := x; ⟨o, dx, e _ _ h⟩
theorem TripAt.go {H H' : Hp} {p a C : Addr} {n s g : Str} {l t : Int} {m : Nat} (x : TripAt H a C n s l t g) (P : Pen p H m) (e : Go p H H') : TripAt H' a C n s l t g := let ⟨o, dx, h⟩ := x; ⟨o, dx, ((P.ins h).go e).at_⟩
theorem eqv_trip (s g s' g' : Str) (l t l' t' : Int) : PyData.eqv (.tuple [.str s, .int l, .int t, .str g]) (.tuple [.str s', .int l', .int t', .str g']) = decide (s = s' ∧ l = l' ∧ t = t' ∧ g = g') := by
  simp only [PyData.eqv, PyData.eqvAll, Bool.and_true]
  by_cases h1 : s = s' <;> by_cases h2 : l = l' <;> by_cases h3 : t = t' <;> by_cases h4 : g = g' <;> simp [h1, h2, h3, h4]
theorem shaped_trip {s g : Str} {l t : Int} (h1 : PyData.strOk s = true) (h2 : PyData.strOk g = true) : SeqAt.shaped (.tuple [.str s, .int l, .int t, .str g]) = true := by
  show ((PyData.strOk s && (true && (true && (PyData.strOk g && true)))) && decide _) = true
  rw [h1, h2]
  rfl
structure TripW (K : PySem.W.Frag) (C : Addr) (wd : Str) : Prop where
  tc : TripC K C
  is : IsC K C
  con : ∃ u, Con K C "WORD" (.str wd) u
def spTripEq (K : PySem.W.Frag) (TR : Addr) : Sp := fun vs H Q _ => ∃ (a C : Addr) (y : V) (n s g wd : Str) (l t : Int), vs = [.ref a, y] ∧ TripAt H a C n s l t g ∧ TripW K C wd ∧
  ((∃ (b C' : Addr) (n' s' g' wd' : Str) (l' t' : Int), y = .ref b ∧ TripAt H b C' n' s' l' t' g' ∧ TripW K C' wd' ∧ PySem.W.kitOne K (.ref C') (.ref TR) = some true ∧ ∀ H', Same H H' → Q (.bl (decide (wd = wd' ∧ n = n' ∧ s = s' ∧ l = l' ∧ t = t' ∧ g = g'))) H') ∨
    ∃ ty, TyX K H y ty ∧ PySem.W.kitOne K ty (.ref TR) = some false ∧ ∀ H', Same H H' → Q (.bl false) H')
theorem t_con {K : PySem.W.Frag} {σ : L2.St} {H : Hp} {Q : VK} {ta : TE} {f : Str} (h : ta σ H fun x H1 => ∃ a C dx fs v u, x = .ref a ∧ H1 a = some (.ins C dx fs) ∧ Cls K C ∧ Con K C f v u ∧ fs.lookup f = none ∧ Q v H1) : tCon K ta f σ H Q := h
section
variable {K : PySem.W.Frag} {H : Hp} {a C : Addr} {n s g wd : Str} {l t : Int} {P : V → Prop}
theorem x_name (w : TripC K C) (x : TripAt H a C n s l t g) (q : P (.str n)) : ∃ a' C' dx fs v, V.ref a = .ref a' ∧ H a' = some (.ins C' dx fs) ∧ Cls K C' ∧ NoAttr K C' "name" ∧ fs.lookup ("name" : Str) = some v ∧ P v := let ⟨_, dx, h⟩ := x; ⟨a, C, dx, _, _, rfl, h, w.cl, w.name, rfl, q⟩
theorem x_start (w : TripC K C) (x : TripAt H a C n s l t g) (q : P (.str s)) : ∃ a' C' dx fs v, V.ref a = .ref a' ∧ H a' = some (.ins C' dx fs) ∧ Cls K C' ∧ NoAttr K C' "start" ∧ fs.lookup ("start" : Str) = some v ∧ P v := let ⟨_, dx, h⟩ := x; ⟨a, C, dx, _, _, rfl, h, w.cl, w.start, rfl, q⟩
theorem x_leaves (w : TripC K C) (x : TripAt H a C n s l t g) (q : P (.int l)) : ∃ a' C' dx fs v, V.ref a = .ref a' ∧ H a' = some (.ins C' dx fs) ∧ Cls K C' ∧ NoAttr K C' "leaves" ∧ fs.lookup ("leaves" : Str) = some v ∧ P v := let ⟨_, dx, h⟩ := x; ⟨a, C, dx, _, _, rfl, h, w.cl, w.leaves, rfl, q⟩
theorem x_takes (w : TripC K C) (x : TripAt H a C n s l t g) (q : P (.int t)) : ∃ a' C' dx fs v, V.ref a = .ref a' ∧ H a' = some (.ins C' dx fs) ∧ Cls K C' ∧ NoAttr K C' "takes" ∧ fs.lookup ("takes" : Str) = some v ∧ P v := let ⟨_, dx, h⟩ := x; ⟨a, C, dx, _, _, rfl, h, w.cl, w.takes, rfl, q⟩
theorem x_goal (w : TripC K C) (x : TripAt H a C n s l t g) (q : P (.str g)) : ∃ a' C' dx fs v, V.ref a = .ref a' ∧ H a' = some (.ins C' dx fs) ∧ Cls K C' ∧ NoAttr K C' "goal" ∧ fs.lookup ("goal" : Str) = some v ∧ P v := let ⟨_, dx, h⟩ := x; ⟨a, C, dx, _, _, rfl, h, w.cl, w.goal, rfl, q⟩
theorem x_word (w : TripW K C wd) (x : TripAt H a C n s l t g) (q : P (.str wd)) : ∃ a' C' dx fs v u, V.ref a = .ref a' ∧ H a' = some (.ins C' dx fs) ∧ Cls K C' ∧ Con K C' "WORD" v u ∧ fs.lookup ("WORD" : Str) = none ∧ P v := let ⟨_, dx, h⟩ := x; let ⟨u, c⟩ := w.con; ⟨a, C, dx, _, _, u, rfl, h, w.tc.cl, c, rfl, q⟩
end
def spTripStr (K : PySem.W.Frag) : Sp := fun vs H Q _ => ∃ (a C : Addr) (n s g wd : Str) (l t : Int), vs = [.ref a] ∧ TripAt H a C n s l t g ∧ TripW K C wd ∧ wd.length ≤ 8 ∧ Q (.str (Txt.join " " [wd, n, s, toString l, toString t])) H
def spRunStr (K : PySem.W.Frag) : Sp := fun vs H Q _ => ∃ (a C : Addr) (n s g wd : Str) (l t : Int), vs = [.ref a] ∧ TripAt H a C n s l t g ∧ TripW K C wd ∧ wd.length ≤ 8 ∧ Q (.str (Txt.join " " [wd, n, s, toString l, toString t, g])) H
section
variable {σ : L2.St} {H : Hp} {t te : TE} {ts : List TE} {acc : Str} {Q : Str → Hp → Prop} {R : VK}
theorem t_js (h : t σ H fun x H1 => ∃ y : Str, x = .str y ∧ (acc ++ y).length ≤ sizeLine ∧ tJs ts (acc ++ y) σ H1 Q) : tJs (t :: ts) acc σ H Q := h
theorem t_js0 (h : Q acc H) : tJs [] acc σ H Q := h
theorem t_fmt (h : te σ H fun x H1 => (∃ y : Str, x = .str y ∧ y.length ≤ sizeLine ∧ R (.str y) H1) ∨ ∃ i : Int, x = .int i ∧ i.natAbs.log2 < 1920 ∧ R (.str (toString i)) H1) : tFmt te σ H R := h
theorem js_s {y : Str} {n m : Nat} (ha : acc.length ≤ n) (hy : y.length ≤ m) (hm : n + m ≤ 1000) (h : (acc ++ y).length ≤ n + m → tJs ts (acc ++ y) σ H Q) : ∃ z : Str, V.str y = .str z ∧ (acc ++ z).length ≤ sizeLine ∧ tJs ts (acc ++ z) σ H Q := by
  have e : (acc ++ y).length ≤ n + m := by rw [Str.length_append]; omega
  exact ⟨y, rfl, Nat.le_trans e (Nat.le_trans hm (by decide)), h e⟩
theorem fmt_s {y : Str} (hy : y.length ≤ 1000) (h : R (.str y) H) : (∃ z : Str, V.str y = .str z ∧ z.length ≤ sizeLine ∧ R (.str z) H) ∨ ∃ i : Int, V.str y = .int i ∧ i.natAbs.log2 < 1920 ∧ R (.str (toString i)) H := .inl ⟨y, rfl, Nat.le_trans hy (by decide), h⟩
theorem fmt_i {i : Int} (hi : i.natAbs ≤ 1000000000000) (h : R (.str (toString i)) H) : (∃ z : Str, V.int i = .str z ∧ z.length ≤ sizeLine ∧ R (.str z) H) ∨ ∃ j : Int, V.int i = .int j ∧ j.natAbs.log2 < 1920 ∧ R (.str (toString j)) H :=
  .inr ⟨i, rfl, Nat.lt_of_lt_of_le (PySem.Flt.log2_lt_of (k := 41) (by decide) (Nat.lt_of_le_of_lt hi (by decide))) (by decide), h⟩
end
theorem num_log {i : Int} (hi : i.natAbs ≤ 1000000000000) : i.natAbs.log2 < 1920 := Nat.lt_of_lt_of_le (PySem.Flt.log2_lt_of (k := 41) (by decide) (Nat.lt_of_le_of_lt hi (by decide))) (by decide)
theorem num_len {i : Int} (hi : i.natAbs ≤ 1000000000000) : (Str.ofString (toString i)).length ≤ 14 := by
  have h1 := int_text_length_le10 (a := i) (k := 13) (by decide) (Nat.lt_of_le_of_lt hi (by decide))
  rw [PyProof.Rows.ofString_len]
  exact h1
theorem join5 (a b c d e : Str) : Txt.join " " [a, b, c, d, e] = Str.empty ++ a ++ " " ++ b ++ " " ++ c ++ " " ++ d ++ " " ++ e := by
  rw [show ∀ l, Txt.join " " l = Str.join " " l from fun l => TL.join_eq " " l, Str.empty_append]
  simp only [Str.join, Str.append_assoc]
theorem join6 (a b c d e f : Str) : Txt.join " " [a, b, c, d, e, f] = Str.empty ++ a ++ " " ++ b ++ " " ++ c ++ " " ++ d ++ " " ++ e ++ " " ++ f := by
  rw [show ∀ l, Txt.join " " l = Str.join " " l from fun l => TL.join_eq " " l, Str.empty_append]
  simp only [Str.join, Str.append_assoc]
theorem Sh.name {z : Str} (h : isName z = true) : Sh (.str z) 100 0 := by
  obtain ⟨h1, h2⟩ := name_ok h
  refine ⟨rfl, rfl, ?_, Nat.le_refl _⟩
  have hx : ∀ c ∈ z.cps.toList, c < 16 ^ 8 := fun c hc => by
    unfold PyData.strOk at h1
    rw [Array.all_eq_true'] at h1
    have := of_decide_eq_true (h1 c (by simpa using hc))
    omega
  have := StrLaws.reprText_len z hx
  show (reprText z).length ≤ 100
  omega
theorem sh_parts {n s g : Str} {l t : Int} (o : TripOk n s l t g) : Sh (.list [.str n, .str s, .int l, .int t, .str g]) 1000 1 := by
  refine (Sh.list (n := 100) (k := 0) fun d hd => ?_).le (show 5 * 100 + 2 * 5 + 3 ≤ 1000 by decide) (Nat.le_refl _)
  have hl := o.l
  have ht := o.t
  simp only [List.mem_cons, List.not_mem_nil, or_false] at hd
  rcases hd with rfl | rfl | rfl | rfl | rfl
  · exact Sh.name o.n
  · exact Sh.name o.s
  · exact (Sh.int (by omega)).le (by decide) (by decide)
  · exact (Sh.int (by omega)).le (by decide) (by decide)
  · exact Sh.name o.g
section
variable {K : PySem.W.Frag} {H : Hp} {C BT : Addr} {n s g : Str} {l t : Int} {R : Addr → Hp → Prop} {E : XK}
theorem mk_tripR (o : TripOk n s l t g) (tc : TripC K C) (k : ∀ b H', Same H H' → H b = none → TripAt H' b C n s l t g → R b H') {x dx : Addr} (hx : H x = none) (hd : H dx = none) :
    spTrip K BT [.ref x, .str n, .str s, .int l, .int t, .str g] (upd (upd H dx (.own x)) x (.ins C dx [])) (fun v H2 => v = .non ∧ R x H2) E := by
  have S : Same H (upd (upd H dx (.own x)) x (.ins C dx [])) := fun b o e => by rw [upd_ne (ne_of_none e hx), upd_ne (ne_of_none e hd)]; exact e
  have nl : ∀ z : Str, isName z = true → z.length ≤ 1000 := fun z h => Nat.le_trans (name_ok h).2 (by decide)
  refine ⟨x, C, dx, _, _, _, _, _, true, true, true, true, true, rfl, upd_same, tc, ⟨.inl ⟨n, rfl, nl n o.n, o.n⟩, .inl ⟨s, rfl, nl s o.s, o.s⟩, .inl ⟨l, rfl, decide_eq_true o.l⟩, .inl ⟨t, rfl, decide_eq_true o.t⟩, .inl ⟨g, rfl, nl g o.g, o.g⟩⟩, fun w hw => ?_, fun _ H' S' => ⟨rfl, k x _ (fun b o e => ?_) hx ⟨o, dx, upd_same⟩⟩⟩
  · have e : dueOf true true true true true = none := rfl
    rw [e] at hw
    cases hw
  · rw [upd_ne (ne_of_none e hx)]
    exact (S.trans S') b o e
theorem mk_run (o : TripOk n s l t g) (tc : TripC K C) (k : ∀ b H', Same H H' → H b = none → TripAt H' b C n s l t g → R b H') : ∀ x dx, H x = none → H dx = none → dx ≠ x →
    spRun K C BT [.ref x, .str n, .str s, .int l, .int t, .str g] (upd (upd H dx (.own x)) x (.ins C dx [])) (fun v H2 => v = .non ∧ R x H2) E := fun x dx hx hd _ => ⟨x, dx, _, _, _, _, _, rfl, upd_same, mk_tripR o tc k hx hd⟩
theorem mk_stay (o : TripOk n s l t s) (tc : TripC K C) (k : ∀ b H', Same H H' → H b = none → TripAt H' b C n s l t s → R b H') : ∀ x dx, H x = none → H dx = none → dx ≠ x →
    spStay K C BT [.ref x, .str n, .str s, .int l, .int t] (upd (upd H dx (.own x)) x (.ins C dx [])) (fun v H2 => v = .non ∧ R x H2) E := fun x dx hx hd _ => ⟨x, dx, _, _, _, _, rfl, upd_same, mk_tripR o tc k hx hd⟩
end
def tripB (wd wd' n n' s s' g g' : Str) (l l' t t' : Int) : Bool := decide (wd = wd' ∧ n = n' ∧ s = s' ∧ l = l' ∧ t = t' ∧ g = g')
section
variable {K : PySem.W.Frag} {H : Hp} {Q : VK} {E : XK} {a b C C' TR : Addr} {n n' s s' g g' wd wd' : Str} {l l' t t' : Int} {y : V} {ty : Value}
theorem r_teq (ta : TripAt H a C n s l t g) (tw : TripW K C wd) (tb : TripAt H b C' n' s' l' t' g') (tw' : TripW K C' wd') (hk : PySem.W.kitOne K (.ref C') (.ref TR) = some true) (nf : PySem.W.notFirst K C (.ref C') = true) (q : ∀ H', Same H H' → Q (.bl (tripB wd wd' n n' s s' g g' l l' t t')) H') :
    rCmpO K C (spTripEq K TR) E (.ref a) (.ref b) H Q := by
  obtain ⟨_, dx, ha⟩ := id ta
  obtain ⟨_, dy, hb⟩ := id tb
  exact ⟨a, dx, _, _, rfl, ha, tw'.is.ty hb, nf, a, C, _, n, s, g, wd, l, t, rfl, ta, tw, .inl ⟨b, C', n', s', g', wd', l', t', rfl, tb, tw', hk, q⟩⟩
theorem r_tne (ta : TripAt H a C n s l t g) (tw : TripW K C wd) (tb : TripAt H b C' n' s' l' t' g') (tw' : TripW K C' wd') (hk : PySem.W.kitOne K (.ref C') (.ref TR) = some true) (nf : PySem.W.notFirst K C (.ref C') = true) (q : ∀ H', Same H H' → Q (.bl (!tripB wd wd' n n' s s' g g' l l' t t')) H') :
    rNeO K C (spTripEq K TR) E (.ref a) (.ref b) H Q := by
  obtain ⟨_, dx, ha⟩ := id ta
  obtain ⟨_, dy, hb⟩ := id tb
  exact ⟨a, dx, _, _, rfl, ha, tw'.is.ty hb, nf, a, C, _, n, s, g, wd, l, t, rfl, ta, tw, .inl ⟨b, C', n', s', g', wd', l', t', rfl, tb, tw', hk, fun H' S => ⟨_, rfl, q H' S⟩⟩⟩
theorem r_teqN (ta : TripAt H a C n s l t g) (tw : TripW K C wd) (hty : TyX K H y ty) (hk : PySem.W.kitOne K ty (.ref TR) = some false) (nf : PySem.W.notFirst K C ty = true) (q : ∀ H', Same H H' → Q (.bl false) H') : rCmpO K C (spTripEq K TR) E (.ref a) y H Q := by
  obtain ⟨_, dx, ha⟩ := id ta
  exact ⟨a, dx, _, _, rfl, ha, hty, nf, a, C, _, n, s, g, wd, l, t, rfl, ta, tw, .inr ⟨ty, hty, hk, q⟩⟩
theorem tripB_self : tripB wd wd n n s s g g l l t t = true := decide_eq_true ⟨rfl, rfl, rfl, rfl, rfl, rfl⟩
theorem nf_of {t : Value} (h : PySem.W.subIn K t (.ref C) = some false) : PySem.W.notFirst K C t = true := by unfold PySem.W.notFirst; rw [h]; simp
end
theorem t_m1 {r : V → List V → Hp → VK → Prop} {to te : TE} {σ : L2.St} {H : Hp} {Q : VK} (h : to σ H fun x H1 => (∃ a, x = .str a) ∧ te σ H1 fun y H2 => r x [y] H2 Q) : tM1 r to te σ H Q := h
end Ol

namespace Ol
open PySem PySem.Spec PyProof.Rows L2
/-! ### deep values: what stands at addresses that are written no more; loc: an object that may be written -/
inductive D where
  | non | bl (b : Bool) | int (i : Int) | str (z : Str)
  | lst (xs : List D) | tup (xs : List D) | dct (kvs : List (Key × D))
  | ins (c : Nat) (fs : List (Str × D)) | err (c : Nat) (fs : List (Str × D))
  | cls (c : Nat) | ty (n : String) | loc (i : Nat) | scr (ns : List Int)
inductive O where
  | off | lst (xs : List D) | dct (kvs : List (Key × D)) | ins (c : Nat) (fs : List (Str × D))
def O.on : O → Bool
  | .off => false
  | _ => true
abbrev Store := List O
inductive Res (α : Type) where
  | ok (a : α) (S : Store) | er (c : Nat) (fs : List (Str × D)) (S : Store) | bad
abbrev M (α : Type) := Store → Res α
namespace M
variable {α β : Type}
def ret (a : α) : M α := fun S => .ok a S
def bnd (m : M α) (k : α → M β) : M β := fun S => match m S with
  | .ok a S' => k a S'
  | .er c fs S' => .er c fs S'
  | .bad => .bad
def bad : M α := fun _ => .bad
def opt : Option α → M α
  | some a => ret a
  | none => bad
end M
/-- the written part, the classes by number, the tables of lambdas -/
structure Wd where
  K : PySem.W.Frag
  cm : Nat → Addr
  T : List (Addr × Str)
/-- a situation: where the objects that may be written stand, what they hold, the heap -/
structure Sit where
  mu : List Addr
  S : Store
  H : Hp
  hd : List Addr
def Sit.own (z : Sit) (a : Addr) : Prop := ∃ (i : Nat) (o : O), z.mu[i]? = some a ∧ z.S[i]? = some o ∧ o.on = true
/-- not to be seen as a thing that is written no more -/
def Sit.live (z : Sit) (a : Addr) : Prop := z.own a ∨ a ∈ z.hd
def WrL (K : PySem.W.Frag) (a : Addr) (xs : List V) : Prop := ∃ (o : Obj) (its : Array Value) (n : Nat), K.lookup a = some o ∧ o.cls = .type "list" ∧ o.dict = none ∧ o.data = .seq its n ∧ its.size ≤ sizeLine ∧ Vals xs its.toList
def WrT (K : PySem.W.Frag) (a : Addr) (xs : List V) : Prop := ∃ (o : Obj) (its : Array Value) (n : Nat), K.lookup a = some o ∧ o.cls = .type "tuple" ∧ o.data = .seq its n ∧ its.size ≤ sizeLine ∧ Vals xs its.toList
mutual
def Rep (w : Wd) (z : Sit) : D → V → Prop
  | .non, v => v = .non
  | .bl b, v => v = .bl b
  | .int i, v => v = .int i
  | .str s, v => v = .str s
  | .lst ds, v => ∃ a vs, v = .ref a ∧ ¬ z.live a ∧ z.H a = some (.lst vs) ∧ RepL w z ds vs
  | .tup ds, v => ∃ a vs, v = .ref a ∧ ((¬ z.live a ∧ Rd z.H a (.tup vs)) ∨ WrT w.K a vs) ∧ RepL w z ds vs
  | .dct kvs, v => ∃ a us, v = .ref a ∧ ¬ z.live a ∧ z.H a = some (.dK us) ∧ RepK w z kvs us
  | .ins c fs, v => ∃ a dx us, v = .ref a ∧ ¬ z.live a ∧ z.H a = some (.ins (w.cm c) dx us) ∧ RepF w z fs us
  | .err c fs, v => ∃ a dx us, v = .ref a ∧ ¬ z.live a ∧ z.H a = some (exv a (w.cm c) (some dx)) ∧ ¬ z.live dx ∧ z.H dx = some (.xd us) ∧ RepF w z fs us
  | .cls c, v => v = .ref (w.cm c)
  | .ty n, v => v = .ty n
  | .loc i, v => ∃ a, v = .ref a ∧ z.mu[i]? = some a
  | .scr ns, v => ∃ a, v = .ref a ∧ ((¬ z.live a ∧ Rd z.H a (.lst (ns.map V.int))) ∨ WrL w.K a (ns.map V.int))
def RepL (w : Wd) (z : Sit) : List D → List V → Prop
  | [], vs => vs = []
  | d :: ds, vs => ∃ v r, vs = v :: r ∧ Rep w z d v ∧ RepL w z ds r
def RepF (w : Wd) (z : Sit) : List (Str × D) → List (Str × V) → Prop
  | [], vs => vs = []
  | (f, d) :: ds, vs => ∃ v r, vs = (f, v) :: r ∧ Rep w z d v ∧ RepF w z ds r
def RepK (w : Wd) (z : Sit) : List (Key × D) → List (Key × V) → Prop
  | [], vs => vs = []
  | (f, d) :: ds, vs => ∃ v r, vs = (f, v) :: r ∧ Rep w z d v ∧ RepK w z ds r
end
/-- what is seen stays -/
structure Vx (z z' : Sit) : Prop where
  pre : ∀ (i : Nat) (a : Addr), z.mu[i]? = some a → z'.mu[i]? = some a
  keep : ∀ b o, ¬ z.live b → z.H b = some o → (∀ ps, o ≠ .tbl ps) → z'.H b = some o ∧ ¬ z'.live b
/-- all that may not be written stays -/
structure Ex (z z' : Sit) : Prop where
  pre : ∀ (i : Nat) (a : Addr), z.mu[i]? = some a → z'.mu[i]? = some a
  hd : z'.hd = z.hd
  keep : ∀ b o, ¬ z.own b → z.H b = some o → (∀ ps, o ≠ .tbl ps) → z'.H b = some o ∧ ¬ z'.own b
theorem Ex.vx {z z' : Sit} (x : Ex z z') : Vx z z' := ⟨x.pre, fun b o n h t => by
  obtain ⟨h1, h2⟩ := x.keep b o (fun q => n (.inl q)) h t
  refine ⟨h1, fun q => ?_⟩
  rcases q with q | q
  · exact h2 q
  · rw [x.hd] at q
    exact n (.inr q)⟩
theorem Ex.refl (z : Sit) : Ex z z := ⟨fun _ _ h => h, rfl, fun _ _ n h _ => ⟨h, n⟩⟩
theorem Ex.trans {a b c : Sit} (x : Ex a b) (y : Ex b c) : Ex a c := ⟨fun i q h => y.pre i q (x.pre i q h), y.hd.trans x.hd, fun p o n h t => let ⟨h1, n1⟩ := x.keep p o n h t; y.keep p o n1 h1 t⟩
theorem Vx.trans {a b c : Sit} (x : Vx a b) (y : Vx b c) : Vx a c := ⟨fun i q h => y.pre i q (x.pre i q h), fun p o n h t => let ⟨h1, n1⟩ := x.keep p o n h t; y.keep p o n1 h1 t⟩
theorem Vx.rd {z z' : Sit} {a : Addr} {u : HO} (x : Vx z z') (n : ¬ z.live a) (h : Rd z.H a u) (t : ∀ ps, u ≠ .tbl ps) : ¬ z'.live a ∧ Rd z'.H a u := by
  rcases h with h | ⟨o, h⟩
  · exact ⟨(x.keep _ _ n h t).2, .inl (x.keep _ _ n h t).1⟩
  · have := x.keep _ _ n h (fun _ e => by cases e)
    exact ⟨this.2, .inr ⟨o, this.1⟩⟩
section
variable {w : Wd} {z z' : Sit}
mutual
theorem Rep.mono (x : Vx z z') : ∀ {d : D} {v : V}, Rep w z d v → Rep w z' d v
  | .non, _, h => by simpa [Rep] using h
  | .bl _, _, h => by simpa [Rep] using h
  | .int _, _, h => by simpa [Rep] using h
  | .str _, _, h => by simpa [Rep] using h
  | .lst ds, v, h => by
    rw [Rep] at h ⊢
    obtain ⟨a, vs, e, n, h, r⟩ := h
    obtain ⟨h1, h2⟩ := x.keep _ _ n h (fun _ e => by cases e)
    exact ⟨a, vs, e, h2, h1, RepL.mono x r⟩
  | .tup ds, v, h => by
    rw [Rep] at h ⊢
    obtain ⟨a, vs, e, h, r⟩ := h
    refine ⟨a, vs, e, ?_, RepL.mono x r⟩
    rcases h with ⟨n, h⟩ | h
    · exact .inl (x.rd n h fun _ e => by cases e)
    · exact .inr h
  | .dct kvs, v, h => by
    rw [Rep] at h ⊢
    obtain ⟨a, us, e, n, h, r⟩ := h
    obtain ⟨h1, h2⟩ := x.keep _ _ n h (fun _ e => by cases e)
    exact ⟨a, us, e, h2, h1, RepK.mono x r⟩
  | .ins c fs, v, h => by
    rw [Rep] at h ⊢
    obtain ⟨a, dx, us, e, n, h, r⟩ := h
    obtain ⟨h1, h2⟩ := x.keep _ _ n h (fun _ e => by cases e)
    exact ⟨a, dx, us, e, h2, h1, RepF.mono x r⟩
  | .err c fs, v, h => by
    rw [Rep] at h ⊢
    obtain ⟨a, dx, us, e, n, h, nd, hd, r⟩ := h
    obtain ⟨h1, h2⟩ := x.keep _ _ n h (fun _ e => by unfold exv at e; cases e)
    obtain ⟨h3, h4⟩ := x.keep _ _ nd hd (fun _ e => by cases e)
    exact ⟨a, dx, us, e, h2, h1, h4, h3, RepF.mono x r⟩
  | .cls _, _, h => by simpa [Rep] using h
  | .ty _, _, h => by simpa [Rep] using h
  | .loc i, v, h => by
    rw [Rep] at h ⊢
    obtain ⟨a, e, h⟩ := h
    exact ⟨a, e, x.pre _ _ h⟩
  | .scr ns, v, h => by
    rw [Rep] at h ⊢
    obtain ⟨a, e, h⟩ := h
    refine ⟨a, e, ?_⟩
    rcases h with ⟨n, h⟩ | h
    · exact .inl (x.rd n h fun _ e => by cases e)
    · exact .inr h
theorem RepL.mono (x : Vx z z') : ∀ {ds : List D} {vs : List V}, RepL w z ds vs → RepL w z' ds vs
  | [], _, h => by simpa [RepL] using h
  | d :: ds, vs, h => by
    rw [RepL] at h ⊢
    obtain ⟨v, r, e, h1, h2⟩ := h
    exact ⟨v, r, e, Rep.mono x h1, RepL.mono x h2⟩
theorem RepF.mono (x : Vx z z') : ∀ {ds : List (Str × D)} {vs : List (Str × V)}, RepF w z ds vs → RepF w z' ds vs
  | [], _, h => by simpa [RepF] using h
  | (f, d) :: ds, vs, h => by
    rw [RepF] at h ⊢
    obtain ⟨v, r, e, h1, h2⟩ := h
    exact ⟨v, r, e, Rep.mono x h1, RepF.mono x h2⟩
theorem RepK.mono (x : Vx z z') : ∀ {ds : List (Key × D)} {vs : List (Key × V)}, RepK w z ds vs → RepK w z' ds vs
  | [], _, h => by simpa [RepK] using h
  | (f, d) :: ds, vs, h => by
    rw [RepK] at h ⊢
    obtain ⟨v, r, e, h1, h2⟩ := h
    exact ⟨v, r, e, Rep.mono x h1, RepK.mono x h2⟩
end
end
/-! ### what the objects that may be written hold -/
def OAt (w : Wd) (z : Sit) (a : Addr) : O → Prop
  | .off => True
  | .lst ds => ∃ vs, z.H a = some (.lst vs) ∧ RepL w z ds vs
  | .dct kvs => ∃ us, z.H a = some (.dK us) ∧ RepK w z kvs us
  | .ins c fs => ∃ dx us, z.H a = some (.ins (w.cm c) dx us) ∧ RepF w z fs us
structure Good (w : Wd) (z : Sit) : Prop where
  len : z.mu.length = z.S.length
  nd : z.mu.Nodup
  at_ : ∀ (i : Nat) (a : Addr) (o : O), z.mu[i]? = some a → z.S[i]? = some o → OAt w z a o
  there : ∀ a, a ∈ z.mu → z.H a ≠ none
  hid : ∀ a, a ∈ z.hd → z.H a ≠ none
  dis : ∀ a, a ∈ z.mu → a ∉ z.hd
  tab : LamX.Tabs w.T z.H
section
variable {w : Wd} {z z' : Sit} {a p : Addr} {o : HO} {ob : O}
theorem Sit.own.mem (h : z.own a) : a ∈ z.mu := by
  obtain ⟨i, o, h, _⟩ := h
  exact List.mem_of_getElem? h
theorem Good.fresh (g : Good w z) (h : z.H p = none) : ¬ z.live p := fun l => by
  rcases l with l | l
  · exact g.there p l.mem h
  · exact g.hid p l h
theorem OAt.mono (x : OAt w z a ob) (e : Vx z z') (h : z'.H a = z.H a) : OAt w z' a ob := by
  cases ob with
  | off => trivial
  | lst ds => obtain ⟨vs, h1, h2⟩ := x; exact ⟨vs, h ▸ h1, h2.mono e⟩
  | dct kvs => obtain ⟨vs, h1, h2⟩ := x; exact ⟨vs, h ▸ h1, h2.mono e⟩
  | ins c fs => obtain ⟨dx, vs, h1, h2⟩ := x; exact ⟨dx, vs, h ▸ h1, h2.mono e⟩
theorem same_ne {H H' : Hp} (s : Same H H') (h : H a ≠ none) : H' a ≠ none := by
  cases e : H a with
  | none => exact absurd e h
  | some u => rw [s _ _ e]; simp
theorem same_eq {H H' : Hp} (s : Same H H') (h : H a ≠ none) : H' a = H a := by
  cases e : H a with
  | none => exact absurd e h
  | some u => exact s _ _ e
/-- more stands in the heap -/
def Sit.on (z : Sit) (H : Hp) : Sit := { z with H := H }
theorem Ex.more {H' : Hp} (s : Same z.H H') : Ex z (z.on H') := ⟨fun _ _ h => h, rfl, fun b o n h _ => ⟨s b o h, n⟩⟩
theorem Good.more {H' : Hp} (g : Good w z) (s : Same z.H H') : Good w (z.on H') :=
  ⟨g.len, g.nd, fun i a o h1 h2 => (g.at_ i a o h1 h2).mono (Ex.more s).vx (same_eq s (g.there a (List.mem_of_getElem? h1))), fun a h => same_ne s (g.there a h), fun a h => same_ne s (g.hid a h), g.dis, g.tab.ext s⟩
/-- a new object that may be written -/
def Sit.add (z : Sit) (p : Addr) (ob : O) (H : Hp) : Sit := ⟨z.mu ++ [p], z.S ++ [ob], H, z.hd⟩
theorem Sit.add_own {H : Hp} (hl : z.mu.length = z.S.length) (h : (z.add p ob H).own a) : z.own a ∨ a = p := by
  obtain ⟨i, o, h1, h2, h3⟩ := h
  by_cases hi : i < z.mu.length
  · refine .inl ⟨i, o, ?_, ?_, h3⟩
    · exact (List.getElem?_append_left hi).symm.trans h1
    · exact (List.getElem?_append_left (by omega)).symm.trans h2
  · have e : (z.mu ++ [p])[i]? = some a := h1
    rw [List.getElem?_append_right (by omega)] at e
    have := List.mem_of_getElem? e
    exact .inr (by simpa using this)
theorem Ex.add {H' : Hp} (g : Good w z) (hp : z.H p = none) (s : Same z.H H') : Ex z (z.add p ob H') := by
  refine ⟨fun i a h => ?_, rfl, fun b o n h _ => ⟨s b o h, fun l => ?_⟩⟩
  · show (z.mu ++ [p])[i]? = some a
    rw [List.getElem?_append_left (by have := List.getElem?_eq_some_iff.mp h; exact this.1)]
    exact h
  · rcases Sit.add_own g.len l with l | rfl
    · exact n l
    · rw [hp] at h; cases h
theorem Good.add {H' : Hp} (g : Good w z) (hp : z.H p = none) (s : Same z.H H') (new : OAt w (z.add p ob H') p ob) (hn : H' p ≠ none) : Good w (z.add p ob H') := by
  have pn : p ∉ z.mu := fun h => g.there p h hp
  refine ⟨?_, ?_, fun i a o h1 h2 => ?_, fun a h => ?_, fun a h => same_ne s (g.hid a h), fun a h => ?_, g.tab.ext s⟩
  · show (z.mu ++ [p]).length = (z.S ++ [ob]).length
    simp [g.len]
  · show (z.mu ++ [p]).Nodup
    rw [List.nodup_append]
    exact ⟨g.nd, by simp, fun a ha b hb => by cases List.mem_singleton.mp hb; exact fun e => pn (e ▸ ha)⟩
  · have h1' : (z.mu ++ [p])[i]? = some a := h1
    have h2' : (z.S ++ [ob])[i]? = some o := h2
    by_cases hi : i < z.mu.length
    · rw [List.getElem?_append_left hi] at h1'
      rw [List.getElem?_append_left (by rw [← g.len]; exact hi)] at h2'
      exact (g.at_ i a o h1' h2').mono (Ex.add g hp s).vx (same_eq s (g.there a (List.mem_of_getElem? h1')))
    · have hi' : i = z.mu.length := by
        have := (List.getElem?_eq_some_iff.mp h1').1
        simp at this
        omega
      subst hi'
      rw [List.getElem?_append_right (Nat.le_refl _), Nat.sub_self] at h1'
      rw [List.getElem?_append_right (by rw [g.len]; exact Nat.le_refl _), ← g.len, Nat.sub_self] at h2'
      cases h1'
      cases h2'
      exact new
  · have h' : a ∈ z.mu ++ [p] := h
    rcases List.mem_append.mp h' with h | h
    · exact same_ne s (g.there a h)
    · cases List.mem_singleton.mp h
      exact hn
  · have h' : a ∈ z.mu ++ [p] := h
    rcases List.mem_append.mp h' with h | h
    · exact g.dis a h
    · cases List.mem_singleton.mp h
      exact fun q => g.hid _ q hp
/-- an object is written -/
def Sit.wr (z : Sit) (i : Nat) (ob : O) (H : Hp) : Sit := ⟨z.mu, z.S.set i ob, H, z.hd⟩
theorem Sit.wr_own {i : Nat} {H : Hp} (h : (z.wr i ob H).own a) : z.own a ∨ (z.mu[i]? = some a ∧ ob.on = true) := by
  obtain ⟨j, o, h1, h2, h3⟩ := h
  have h2' : (z.S.set i ob)[j]? = some o := h2
  by_cases hj : i = j
  · subst hj
    rw [List.getElem?_set_self (by have := (List.getElem?_eq_some_iff.mp h2').1; simpa using this)] at h2'
    cases h2'
    exact .inr ⟨h1, h3⟩
  · rw [List.getElem?_set_ne hj] at h2'
    exact .inl ⟨j, o, h1, h2', h3⟩
def plainO : HO → Prop
  | .lst _ => True
  | .dK _ => True
  | .ins _ _ _ => True
  | _ => False
theorem OAt.plain (x : OAt w z a ob) (h : ob.on = true) : ∃ u, z.H a = some u ∧ plainO u := by
  cases ob with
  | off => cases h
  | lst ds => obtain ⟨vs, h1, _⟩ := x; exact ⟨_, h1, trivial⟩
  | dct kvs => obtain ⟨vs, h1, _⟩ := x; exact ⟨_, h1, trivial⟩
  | ins c fs => obtain ⟨dx, vs, h1, _⟩ := x; exact ⟨_, h1, trivial⟩
theorem tabs_upd {T : List (Addr × Str)} {H : Hp} {u : HO} (t : LamX.Tabs T H) (h : H a = some u) (hu : plainO u) : LamX.Tabs T (upd H a o) := fun q hq => by
  obtain ⟨ps, h1, h2, h3⟩ := t q hq
  have ne : ∀ {b : Addr} {v : HO}, H b = some v → ¬ plainO v → b ≠ a := fun {b v} e n z => by
    rw [z, h] at e
    cases e
    exact n hu
  refine ⟨ps, by rw [upd_ne (ne h1 (fun z => z))]; exact h1, h2, fun pos cv hc => ?_⟩
  obtain ⟨c, e1, e2⟩ := h3 pos cv hc
  exact ⟨c, e1, by rw [upd_ne (ne e2 (fun z => z))]; exact e2⟩
theorem upd_some {H : Hp} {b : Addr} (h : H b ≠ none) : upd H a o b ≠ none := by
  by_cases e : b = a
  · rw [e, upd_same]; simp
  · rw [upd_ne e]; exact h
theorem Ex.wr {i : Nat} {oo : O} (hi : z.mu[i]? = some a) (ho : z.S[i]? = some oo) (on : oo.on = true) : Ex z (z.wr i ob (upd z.H a o)) := by
  refine ⟨fun _ _ h => h, rfl, fun b u n h _ => ⟨?_, fun l => ?_⟩⟩
  · show upd z.H a o b = some u
    rw [upd_ne (fun e : b = a => n (by rw [e]; exact ⟨i, oo, hi, ho, on⟩))]
    exact h
  · rcases Sit.wr_own l with l | ⟨l, _⟩
    · exact n l
    · rw [hi] at l
      cases l
      exact n ⟨i, oo, hi, ho, on⟩
theorem Good.wr {i : Nat} {oo : O} (g : Good w z) (hi : z.mu[i]? = some a) (ho : z.S[i]? = some oo) (on : oo.on = true) (new : OAt w (z.wr i ob (upd z.H a o)) a ob) : Good w (z.wr i ob (upd z.H a o)) := by
  obtain ⟨u, hu, pu⟩ := (g.at_ i a oo hi ho).plain on
  refine ⟨by show z.mu.length = (z.S.set i ob).length; simp [g.len], g.nd, fun j b q h1 h2 => ?_, fun b h => upd_some (g.there b h), fun b h => upd_some (g.hid b h), g.dis, tabs_upd g.tab hu pu⟩
  have h2' : (z.S.set i ob)[j]? = some q := h2
  have h1' : z.mu[j]? = some b := h1
  by_cases hj : i = j
  · subst hj
    rw [hi] at h1'
    cases h1'
    rw [List.getElem?_set_self (by have := (List.getElem?_eq_some_iff.mp ho).1; simpa using this)] at h2'
    cases h2'
    exact new
  · rw [List.getElem?_set_ne hj] at h2'
    refine (g.at_ j b q h1' h2').mono (Ex.wr hi ho on).vx ?_
    show upd z.H a o b = z.H b
    rw [upd_ne]
    intro e
    subst e
    have h3 := List.getElem?_eq_some_iff.mp hi
    have h4 := List.getElem?_eq_some_iff.mp h1'
    exact hj ((List.getElem_inj g.nd).mp (h3.2.trans h4.2.symm))
/-- an object is written no more -/
theorem Ex.frz {i : Nat} : Ex z (z.wr i .off z.H) := by
  refine ⟨fun _ _ h => h, rfl, fun b u n h _ => ⟨h, fun l => ?_⟩⟩
  rcases Sit.wr_own l with l | ⟨_, l⟩
  · exact n l
  · cases l
theorem Good.frz {i : Nat} (g : Good w z) : Good w (z.wr i .off z.H) := by
  refine ⟨by show z.mu.length = (z.S.set i .off).length; simp [g.len], g.nd, fun j b q h1 h2 => ?_, g.there, g.hid, g.dis, g.tab⟩
  have h2' : (z.S.set i .off)[j]? = some q := h2
  by_cases hj : i = j
  · subst hj
    rw [List.getElem?_set_self (by have := (List.getElem?_eq_some_iff.mp h2').1; simpa using this)] at h2'
    cases h2'
    trivial
  · rw [List.getElem?_set_ne hj] at h2'
    exact (g.at_ j b q h1 h2').mono Ex.frz.vx rfl
theorem not_own_frz {i : Nat} (g : Good w z) (hi : z.mu[i]? = some a) : ¬ (z.wr i .off z.H).own a := by
  rintro ⟨j, o, h1, h2, h3⟩
  have h1' : z.mu[j]? = some a := h1
  have h2' : (z.S.set i .off)[j]? = some o := h2
  have e : i = j := by
    have h3 := List.getElem?_eq_some_iff.mp hi
    have h4 := List.getElem?_eq_some_iff.mp h1'
    exact (List.getElem_inj g.nd).mp (h3.2.trans h4.2.symm)
  subst e
  rw [List.getElem?_set_self (by have := (List.getElem?_eq_some_iff.mp h2').1; simpa using this)] at h2'
  cases h2'
  cases h3
end
/-! ### outcomes -/
abbrev Env8 := List (Option D)
def Out {α : Type} (w : Wd) (z : Sit) (r : Res α) (P : α → Sit → Prop) (E : XK) : Prop := match r with
  | .ok a S' => ∀ z' : Sit, z'.S = S' → Ex z z' → Good w z' → P a z'
  | .er c fs S' => ∀ (z' : Sit) (dx : Addr) (us : List (Str × V)), z'.S = S' → Ex z z' → Good w z' → RepF w z' fs us → z'.H dx = some (.xd us) → ¬ z'.live dx → E (.ref (w.cm c)) (some dx) z'.H
  | .bad => False
section
variable {α β : Type} {w : Wd} {z z1 : Sit} {r : Res α} {P : α → Sit → Prop} {E : XK}
theorem Out.at (x : Ex z z1) (h : Out w z r P E) : Out w z1 r P E := by
  cases r with
  | ok a S => exact fun z' e x' g => h z' e (x.trans x') g
  | er c fs S => exact fun z' dx us e x' g => h z' dx us e (x.trans x') g
  | bad => exact h
theorem Out.imp {Q : α → Sit → Prop} (h : Out w z r P E) (i : ∀ a z', Ex z z' → Good w z' → P a z' → Q a z') : Out w z r Q E := by
  cases r with
  | ok a S => exact fun z' e x' g => i a z' x' g (h z' e x' g)
  | er c fs S => exact h
  | bad => exact h
theorem Out.bnd {m : M α} {k : α → M β} {P : β → Sit → Prop} {S : Store} (h : Out w z ((m.bnd k) S) P E) : Out w z (m S) (fun a z1 => Out w z1 (k a z1.S) P E) E := by
  unfold M.bnd at h
  cases e : m S with
  | ok a S1 => rw [e] at h; exact fun z1 e1 x g => by subst e1; exact Out.at x h
  | er c fs S1 => rw [e] at h; exact h
  | bad => rw [e] at h; exact h
theorem Out.ret {a : α} {S : Store} (h : Out w z (M.ret a S) P E) (g : Good w z) (e : z.S = S) : P a z := h z e (Ex.refl z) g
end
def REnv (w : Wd) (z : Sit) (env : Env8) (σ : L2.St) : Prop := env.length = σ.length ∧ ∀ (i : Nat) (d : D), env[i]? = some (some d) → ∃ v, σ[i]? = some (some v) ∧ Rep w z d v
theorem REnv.mono {w : Wd} {z z' : Sit} {env : Env8} {σ : L2.St} (h : REnv w z env σ) (x : Vx z z') : REnv w z' env σ := ⟨h.1, fun i d e => let ⟨v, h1, h2⟩ := h.2 i d e; ⟨v, h1, h2.mono x⟩⟩
theorem REnv.set {w : Wd} {z : Sit} {env : Env8} {σ : L2.St} {i : Nat} {d : D} {v : V} (h : REnv w z env σ) (r : Rep w z d v) : REnv w z (env.set i (some d)) (σ.set i (some v)) := by
  refine ⟨by simp [h.1], fun j e hj => ?_⟩
  by_cases q : i = j
  · subst q
    have hl := (List.getElem?_eq_some_iff.mp hj).1
    rw [List.length_set] at hl
    rw [List.getElem?_set_self hl] at hj
    cases hj
    exact ⟨v, by rw [List.getElem?_set_self (by rw [← h.1]; exact hl)], r⟩
  · rw [List.getElem?_set_ne q] at hj
    rw [List.getElem?_set_ne q]
    exact h.2 j e hj
/-! ### readings by functions -/
def tM (w : Wd) (E : XK) (f : Env8 → M D) : TE := fun σ H Q => ∃ (env : Env8) (z : Sit), z.H = H ∧ Good w z ∧ REnv w z env σ ∧ Out w z (f env z.S) (fun d z' => ∀ v, Rep w z' d v → Q v z'.H) E
def tMB (w : Wd) (E : XK) (f : Env8 → M Bool) : TT := fun σ H Q => ∃ (env : Env8) (z : Sit), z.H = H ∧ Good w z ∧ REnv w z env σ ∧ Out w z (f env z.S) (fun b z' => Q b z'.H) E
def tMA (w : Wd) (E : XK) (f : Env8 → M (List D)) : TA := fun σ H Q => ∃ (env : Env8) (z : Sit), z.H = H ∧ Good w z ∧ REnv w z env σ ∧ Out w z (f env z.S) (fun ds z' => ∀ vs, RepL w z' ds vs → Q vs z'.H) E
inductive Fl where
  | nx (env : Env8) | rt (d : D) | bk (env : Env8) | ct (env : Env8)
def FlP (w : Wd) (De : Ends) : Fl → Sit → Prop
  | .nx env, z => ∀ σ, REnv w z env σ → De.nx σ z.H
  | .rt d, z => ∀ v, Rep w z d v → De.rt v z.H
  | .bk env, z => ∀ σ, REnv w z env σ → De.bk σ z.H
  | .ct env, z => ∀ σ, REnv w z env σ → De.ct σ z.H
def tMS (w : Wd) (E : XK) (f : Env8 → M Fl) : TS := fun De σ H => ∃ (env : Env8) (z : Sit), z.H = H ∧ Good w z ∧ REnv w z env σ ∧ Out w z (f env z.S) (FlP w De) E
/-- a def's promise by a function of its arguments -/
def spM (w : Wd) (n : Nat) (F : List D → M D) : Sp := fun vs H Q E => vs.length = n ∧ ∃ (ds : List D) (z : Sit), z.H = H ∧ Good w z ∧ RepL w z ds vs ∧ Out w z (F ds z.S) (fun d z' => ∀ v, Rep w z' d v → Q v z'.H) E
abbrev PM (X : Cx) (w : Wd) (E : XK) (e : Expr) (f : Env8 → M D) : Prop := PE X e (tM w E f)
abbrev PMT (X : Cx) (w : Wd) (E : XK) (e : Expr) (f : Env8 → M Bool) : Prop := PT X e (tMB w E f)
abbrev PMA (X : Cx) (w : Wd) (E : XK) (es : List Expr) (f : Env8 → M (List D)) : Prop := PA X es (tMA w E f)
abbrev PMS (X : Cx) (w : Wd) (E : XK) (st : Stmt) (f : Env8 → M Fl) : Prop := PS X st (tMS w E f)
abbrev PMSs (X : Cx) (w : Wd) (E : XK) (st : List Stmt) (f : Env8 → M Fl) : Prop := PSs X st (tMS w E f)
theorem _root_.L2.PE.wk {X : Cx} {e : Expr} {t u : TE} (p : PE X e t) (h : ∀ σ H Q, u σ H Q → t σ H Q) : PE X e u := ⟨fun pins s σ H Q I x => p.run pins s σ H Q I (h σ H Q x)⟩
theorem _root_.L2.PT.wk {X : Cx} {e : Expr} {t u : TT} (p : PT X e t) (h : ∀ σ H Q, u σ H Q → t σ H Q) : PT X e u := ⟨fun pins s σ H Q I x => p.run pins s σ H Q I (h σ H Q x)⟩
theorem _root_.L2.PA.wk {X : Cx} {es : List Expr} {t u : TA} (p : PA X es t) (h : ∀ σ H Q, u σ H Q → t σ H Q) : PA X es u := ⟨fun pos pins s σ H Q I x => p.run pos pins s σ H Q I (h σ H Q x)⟩
theorem _root_.L2.PS.wk {X : Cx} {st : Stmt} {t u : TS} (p : PS X st t) (h : ∀ De σ H, u De σ H → t De σ H) : PS X st u := ⟨fun pins s σ H De I x => p.run pins s σ H De I (h De σ H x)⟩
theorem _root_.L2.PSs.wk {X : Cx} {st : List Stmt} {t u : TS} (p : PSs X st t) (h : ∀ De σ H, u De σ H → t De σ H) : PSs X st u := ⟨fun pins s σ H De I x => p.run pins s σ H De I (h De σ H x)⟩
end Ol

namespace Ol
open PySem PySem.Spec PyProof.Rows L2
/-! ### combinators -/
section
variable {α β : Type}
def fVar (i : Nat) : Env8 → M D := fun env => match env[i]? with
  | some (some d) => M.ret d
  | _ => M.bad
def fC (d : D) : Env8 → M D := fun _ => M.ret d
def f1 (g : α → M β) (fa : Env8 → M α) : Env8 → M β := fun env => (fa env).bnd g
def f2 (g : D → D → M β) (fa fb : Env8 → M D) : Env8 → M β := fun env => (fa env).bnd fun x => (fb env).bnd fun y => g x y
def fNil : Env8 → M (List D) := fun _ => M.ret []
def fCons (fa : Env8 → M D) (fr : Env8 → M (List D)) : Env8 → M (List D) := fun env => (fa env).bnd fun x => (fr env).bnd fun xs => M.ret (x :: xs)
def dBool : D → M Bool
  | .bl b => M.ret b
  | _ => M.bad
def fAnd (p q : Env8 → M Bool) : Env8 → M Bool := fun env => (p env).bnd fun b => if b = true then q env else M.ret false
def fOr (p q : Env8 → M Bool) : Env8 → M Bool := fun env => (p env).bnd fun b => if b = true then M.ret true else q env
def fNot (p : Env8 → M Bool) : Env8 → M Bool := fun env => (p env).bnd fun b => M.ret (!b)
def fIf {α : Type} (p : Env8 → M Bool) (fa fb : Env8 → M α) : Env8 → M α := fun env => (p env).bnd fun b => if b = true then fa env else fb env
def fAndV (fa fb : Env8 → M D) : Env8 → M D := fun env => ((fa env).bnd dBool).bnd fun b => if b = true then fb env else M.ret (.bl false)
def fOrV (fa fb : Env8 → M D) : Env8 → M D := fun env => ((fa env).bnd dBool).bnd fun b => if b = true then M.ret (.bl true) else fb env
def fNotV (fa : Env8 → M D) : Env8 → M D := fun env => ((fa env).bnd dBool).bnd fun b => M.ret (.bl (!b))
def fChain (g g' : D → D → M D) (fa fb fc : Env8 → M D) : Env8 → M D := fun env => (fa env).bnd fun x => (fb env).bnd fun y => ((g x y).bnd dBool).bnd fun b => if b = true then (fc env).bnd fun u => g' y u else M.ret (.bl false)
end
/-! ### what a rule does, by a function -/
abbrev PQ (w : Wd) (Q : VK) : D → Sit → Prop := fun d z' => ∀ v, Rep w z' d v → Q v z'.H
def Does1 (w : Wd) (E : XK) (r : V → Hp → VK → Prop) (g : D → M D) : Prop := ∀ (z : Sit) (a : D) (x : V) (Q : VK), Good w z → Rep w z a x → Out w z (g a z.S) (PQ w Q) E → r x z.H Q
def Does2 (w : Wd) (E : XK) (r : R2) (g : D → D → M D) : Prop := ∀ (z : Sit) (a b : D) (x y : V) (Q : VK), Good w z → Rep w z a x → Rep w z b y → Out w z (g a b z.S) (PQ w Q) E → r x y z.H Q
def DoesN (w : Wd) (E : XK) (r : List V → Hp → VK → Prop) (g : List D → M D) : Prop := ∀ (z : Sit) (as : List D) (xs : List V) (Q : VK), Good w z → RepL w z as xs → Out w z (g as z.S) (PQ w Q) E → r xs z.H Q
def alt2 (r r' : R2) : R2 := fun x y H Q => r x y H Q ∨ r' x y H Q
def altN (r r' : List V → Hp → VK → Prop) : List V → Hp → VK → Prop := fun xs H Q => r xs H Q ∨ r' xs H Q
def altE (t u : TE) : TE := fun σ H Q => t σ H Q ∨ u σ H Q
section
variable {X : Cx} {w : Wd} {E : XK}
theorem opr_or {f : Value → Value → Sem Value} {r r' : R2} (h : OpR X f r) (h' : OpR X f r') : OpR X f (alt2 r r') := by
  intro pins s σ H x y v u Q I rx ry z
  rcases z with z | z
  · exact h pins s σ H x y v u Q I rx ry z
  · exact h' pins s σ H x y v u Q I rx ry z
theorem ixr_or {r r' : R2} (h : IxR X r) (h' : IxR X r') : IxR X (alt2 r r') := by
  intro va sl pins s σ H x y v u Q I rx ry z e
  rcases z with z | z
  · exact h va sl pins s σ H x y v u Q I rx ry z e
  · exact h' va sl pins s σ H x y v u Q I rx ry z e
theorem cr_or {f : Value} {r r' : List V → Hp → VK → Prop} (h : CallR X f r) (h' : CallR X f r') : CallR X f (altN r r') := by
  intro pins s σ H xs us Q I rx z
  rcases z with z | z
  · exact h pins s σ H xs us Q I rx z
  · exact h' pins s σ H xs us Q I rx z
theorem pe_alt {e : Expr} {t u : TE} (p : PE X e t) (q : PE X e u) : PE X e (altE t u) := ⟨fun pins s σ H Q I x => by
  rcases x with x | x
  · exact p.run pins s σ H Q I x
  · exact q.run pins s σ H Q I x⟩
/-- one way, or another one where the first is none -/
def fAlt (f g : Env8 → M D) : Env8 → M D := fun env S => match f env S with
  | .bad => g env S
  | r => r
theorem pm_alt {e : Expr} {f g : Env8 → M D} (p : PM X w E e f) (q : PM X w E e g) : PM X w E e (fAlt f g) := (pe_alt p q).wk fun σ H Q ⟨env, z, eH, G, re, o⟩ => by
  unfold fAlt at o
  cases h : f env z.S with
  | ok a S => rw [h] at o; exact .inl ⟨env, z, eH, G, re, by rw [h]; exact o⟩
  | er c fs S => rw [h] at o; exact .inl ⟨env, z, eH, G, re, by rw [h]; exact o⟩
  | bad => rw [h] at o; exact .inr ⟨env, z, eH, G, re, o⟩
end
section
variable {X : Cx} {w : Wd} {E : XK} {e a b c : Expr} {fa fb fc : Env8 → M D} {pos : Pos}
theorem pm_var {i : Nat} (p : PE X e (tVar i)) : PM X w E e (fVar i) := p.wk fun σ H Q ⟨env, z, eH, G, re, o⟩ => by
  unfold fVar at o
  cases h : env[i]? with
  | none => rw [h] at o; exact o.elim
  | some x =>
    cases x with
    | none => rw [h] at o; exact o.elim
    | some d =>
      rw [h] at o
      obtain ⟨v, h1, h2⟩ := re.2 i d h
      subst eH
      exact ⟨v, h1, (Out.ret o G rfl) v h2⟩
theorem pm_c {d : D} {v : V} (p : PE X e (tC v)) (h : ∀ z, Rep w z d v) : PM X w E e (fC d) := p.wk fun σ H Q ⟨env, z, eH, G, re, o⟩ => by
  subst eH
  exact (Out.ret o G rfl) v (h z)
theorem rep_int {z : Sit} {i : Int} : Rep w z (.int i) (.int i) := by rw [Rep]
theorem rep_bl {z : Sit} {b : Bool} : Rep w z (.bl b) (.bl b) := by rw [Rep]
theorem rep_str {z : Sit} {s : Str} : Rep w z (.str s) (.str s) := by rw [Rep]
theorem rep_non {z : Sit} : Rep w z .non .non := by rw [Rep]
theorem rep_cls {z : Sit} {c : Nat} : Rep w z (.cls c) (.ref (w.cm c)) := by rw [Rep]
theorem rep_ty {z : Sit} {c : String} : Rep w z (.ty c) (.ty c) := by rw [Rep]
theorem pm_int {i : Int} {j} : PM X w E (.Constant (.int i) j pos) (fC (.int i)) := pm_c pe_int fun _ => rep_int
theorem pm_str {s : Str} {j} : PM X w E (.Constant (.str s) j pos) (fC (.str s)) := pm_c pe_str fun _ => rep_str
theorem pm_bl {b : Bool} {j} : PM X w E (.Constant (.bool b) j pos) (fC (.bl b)) := pm_c pe_bl fun _ => rep_bl
theorem pm_non {j} : PM X w E (.Constant .none j pos) (fC .non) := pm_c pe_non fun _ => rep_non
theorem pm_1 {r : V → Hp → VK → Prop} {g : D → M D} (p : PE X e (tUn r (tM w E fa))) (hd : Does1 w E r g) : PM X w E e (f1 g fa) := p.wk fun σ H Q ⟨env, z, eH, G, re, o⟩ =>
  ⟨env, z, eH, G, re, (Out.bnd o).imp fun a z1 x1 g1 o1 x rx => hd z1 a x Q g1 rx o1⟩
theorem pm_2 {r : R2} {g : D → D → M D} (p : PE X e (tOp r (tM w E fa) (tM w E fb))) (hd : Does2 w E r g) : PM X w E e (f2 g fa fb) := p.wk fun σ H Q ⟨env, z, eH, G, re, o⟩ =>
  ⟨env, z, eH, G, re, (Out.bnd o).imp fun a z1 x1 g1 o1 x rx => ⟨env, z1, rfl, g1, re.mono x1.vx, (Out.bnd o1).imp fun b z2 x2 g2 o2 y ry => hd z2 a b x y Q g2 (rx.mono x2.vx) ry o2⟩⟩
theorem pm_n {r : List V → Hp → VK → Prop} {g : List D → M D} {fs : Env8 → M (List D)} (p : PE X e (tCB r (tMA w E fs))) (hd : DoesN w E r g) : PM X w E e (f1 g fs) := p.wk fun σ H Q ⟨env, z, eH, G, re, o⟩ =>
  ⟨env, z, eH, G, re, (Out.bnd o).imp fun as z1 x1 g1 o1 xs rx => hd z1 as xs Q g1 rx o1⟩
theorem pmt_cmp {r : R2} {g : D → D → M D} (p : PT X e (tTest (tOp r (tM w E fa) (tM w E fb)))) (hd : Does2 w E r g) : PMT X w E e (f1 dBool (f2 g fa fb)) := p.wk fun σ H Q ⟨env, z, eH, G, re, o⟩ =>
  ⟨env, z, eH, G, re, (Out.bnd (Out.bnd o)).imp fun a z1 x1 g1 o1 x rx => ⟨env, z1, rfl, g1, re.mono x1.vx, (Out.bnd o1).imp fun b z2 x2 g2 o2 y ry => hd z2 a b x y _ g2 (rx.mono x2.vx) ry (o2.imp fun d z3 x3 g3 o3 v rv => by
    cases d with
    | bl k => rw [Rep] at rv; exact ⟨k, rv, Out.ret o3 g3 rfl⟩
    | _ => exact o3.elim)⟩⟩
theorem pm_chain {r r' : R2} {g g' : D → D → M D} (p : PE X e (tChain r r' (tM w E fa) (tM w E fb) (tM w E fc))) (hd : Does2 w E r g) (hd' : Does2 w E r' g') : PM X w E e (fChain g g' fa fb fc) := p.wk fun σ H Q ⟨env, z, eH, G, re, o⟩ =>
  ⟨env, z, eH, G, re, (Out.bnd o).imp fun a z1 x1 g1 o1 x rx => ⟨env, z1, rfl, g1, re.mono x1.vx, (Out.bnd o1).imp fun b z2 x2 g2 o2 y ry => hd z2 a b x y _ g2 (rx.mono x2.vx) ry ((Out.bnd (Out.bnd o2)).imp fun d z3 x3 g3 o3 v rv => by
    cases d with
    | bl k =>
      rw [Rep] at rv
      have o4 := Out.ret o3 g3 rfl
      refine ⟨k, rv, ?_⟩
      cases k with
      | true => exact iteT ⟨env, z3, rfl, g3, ((re.mono x1.vx).mono x2.vx).mono x3.vx, (Out.bnd (show Out w z3 (((fc env).bnd fun u => g' b u) z3.S) (PQ w Q) E from o4)).imp fun u z4 x4 g4 o5 q rq => hd' z4 b u y q Q g4 ((ry.mono x3.vx).mono x4.vx) rq o5⟩
      | false => exact iteF ((Out.ret (show Out w z3 (M.ret (.bl false) z3.S) (PQ w Q) E from o4) g3 rfl) _ rep_bl)
    | _ => exact o3.elim)⟩⟩
theorem pmt_chain {r r' : R2} {g g' : D → D → M D} (p : PT X e (tTest (tChain r r' (tM w E fa) (tM w E fb) (tM w E fc)))) (hd : Does2 w E r g) (hd' : Does2 w E r' g') : PMT X w E e (f1 dBool (fChain g g' fa fb fc)) := p.wk fun σ H Q ⟨env, z, eH, G, re, o⟩ =>
  ⟨env, z, eH, G, re, (Out.bnd (Out.bnd o)).imp fun a z1 x1 g1 o1 x rx => ⟨env, z1, rfl, g1, re.mono x1.vx, (Out.bnd o1).imp fun b z2 x2 g2 o2 y ry => hd z2 a b x y _ g2 (rx.mono x2.vx) ry ((Out.bnd (Out.bnd o2)).imp fun d z3 x3 g3 o3 v rv => by
    cases d with
    | bl k =>
      rw [Rep] at rv
      have o4 := Out.ret o3 g3 rfl
      refine ⟨k, rv, ?_⟩
      have fin : ∀ (z' : Sit) (d : D), Good w z' → Out w z' (dBool d z'.S) (fun b z'' => Q b z''.H) E → ∀ v, Rep w z' d v → ∃ k, v = .bl k ∧ Q k z'.H := fun z' d gz od v rv => by
        cases d with
        | bl k => rw [Rep] at rv; exact ⟨k, rv, Out.ret od gz rfl⟩
        | _ => exact od.elim
      cases k with
      | true => exact iteT ⟨env, z3, rfl, g3, ((re.mono x1.vx).mono x2.vx).mono x3.vx, (Out.bnd (show Out w z3 (((fc env).bnd fun u => g' b u) z3.S) _ E from o4)).imp fun u z4 x4 g4 o5 q rq => hd' z4 b u y q _ g4 ((ry.mono x3.vx).mono x4.vx) rq (o5.imp fun d' z5 x5 g5 o6 v' rv' => fin z5 d' g5 o6 v' rv')⟩
      | false => exact iteF (fin z3 (D.bl false) g3 (Out.ret (show Out w z3 (M.ret (D.bl false) z3.S) _ E from o4) g3 rfl) _ rep_bl)
    | _ => exact o3.elim)⟩⟩
theorem pma_nil : PMA X w E [] fNil := pa_nil.wk fun σ H Q ⟨env, z, eH, G, re, o⟩ => by
  subst eH
  exact (Out.ret o G rfl) [] (by rw [RepL])
theorem pma_cons {es : List Expr} {fr : Env8 → M (List D)} (p : PM X w E e fa) (q : PMA X w E es fr) (hs : starEach (e :: es) X.env = (false, eval e X.env) :: starEach es X.env := by rfl) : PMA X w E (e :: es) (fCons fa fr) := (pa_cons p q hs).wk fun σ H Q ⟨env, z, eH, G, re, o⟩ =>
  ⟨env, z, eH, G, re, (Out.bnd o).imp fun a z1 x1 g1 o1 x rx => ⟨env, z1, rfl, g1, re.mono x1.vx, (Out.bnd o1).imp fun as z2 x2 g2 o2 xs rxs => (Out.ret o2 g2 rfl) (x :: xs) (by rw [RepL]; exact ⟨x, xs, rfl, rx.mono x2.vx, rxs⟩)⟩⟩
/-! tests -/
theorem pmt_val (p : PM X w E e fa) (he : ∀ whole, isTrue e X.env whole = (do let v ← whole; standAt e.pos; holding [v] (truthy v)) := by intro _; rfl) : PMT X w E e (f1 dBool fa) := (pt_val p he).wk fun σ H Q ⟨env, z, eH, G, re, o⟩ =>
  ⟨env, z, eH, G, re, (Out.bnd o).imp fun d z1 x1 g1 o1 v rv => by
    cases d with
    | bl k => rw [Rep] at rv; exact ⟨k, rv, Out.ret o1 g1 rfl⟩
    | _ => exact o1.elim⟩
variable {p q : Env8 → M Bool}
theorem pmt_not (h : PMT X w E a p) : PMT X w E (.UnaryOp .Not a pos) (fNot p) := (pt_not h).wk fun σ H Q ⟨env, z, eH, G, re, o⟩ =>
  ⟨env, z, eH, G, re, (Out.bnd o).imp fun b z1 x1 g1 o1 => Out.ret o1 g1 rfl⟩
abbrev PMW (X : Cx) (w : Wd) (E : XK) (e : Expr) (f : Env8 → M Bool) : Prop := PW X e (tMB w E f)
theorem _root_.L2.PW.wk {X : Cx} {e : Expr} {t u : TT} (p : PW X e t) (h : ∀ σ H Q, u σ H Q → t σ H Q) : PW X e u := ⟨fun wh pins s σ H Q I x => p.run wh pins s σ H Q I (h σ H Q x)⟩
theorem pmw_and {rest : List Expr} (h : PMT X w E a p) (k : PMW X w E (.BoolOp .And (b :: rest) pos) q) : PMW X w E (.BoolOp .And (a :: b :: rest) pos) (fAnd p q) := PW.wk (pw_and h k) fun σ H Q ⟨env, z, eH, G, re, o⟩ =>
  ⟨env, z, eH, G, re, (Out.bnd o).imp fun b z1 x1 g1 o1 => by
    cases b with
    | true => exact iteT ⟨env, z1, rfl, g1, re.mono x1.vx, o1⟩
    | false => exact iteF (Out.ret (show Out w z1 (M.ret false z1.S) _ E from o1) g1 rfl)⟩
theorem pmw_or {rest : List Expr} (h : PMT X w E a p) (k : PMW X w E (.BoolOp .Or (b :: rest) pos) q) : PMW X w E (.BoolOp .Or (a :: b :: rest) pos) (fOr p q) := PW.wk (pw_or h k) fun σ H Q ⟨env, z, eH, G, re, o⟩ =>
  ⟨env, z, eH, G, re, (Out.bnd o).imp fun b z1 x1 g1 o1 => by
    cases b with
    | true => exact iteT (Out.ret (show Out w z1 (M.ret true z1.S) _ E from o1) g1 rfl)
    | false => exact iteF ⟨env, z1, rfl, g1, re.mono x1.vx, o1⟩⟩
theorem pmw_and1 (h : PMT X w E a p) : PMW X w E (.BoolOp .And [a] pos) p := pw_and1 h
theorem pmw_or1 (h : PMT X w E a p) : PMW X w E (.BoolOp .Or [a] pos) p := pw_or1 h
theorem pm_ifExp {c : Expr} (h : PMT X w E c p) (ha : PM X w E a fa) (hb : PM X w E b fb) : PM X w E (.IfExp c a b pos) (fIf p fa fb) := (pe_ifExp h ha hb).wk fun σ H Q ⟨env, z, eH, G, re, o⟩ =>
  ⟨env, z, eH, G, re, (Out.bnd o).imp fun b z1 x1 g1 o1 => by
    cases b with
    | true => exact iteT ⟨env, z1, rfl, g1, re.mono x1.vx, o1⟩
    | false => exact iteF ⟨env, z1, rfl, g1, re.mono x1.vx, o1⟩⟩
theorem pm_and {rest : List Expr} (h : PM X w E a fa) (k : PM X w E (.BoolOp .And (b :: rest) pos) fb) : PM X w E (.BoolOp .And (a :: b :: rest) pos) (fAndV fa fb) := (pe_and h k).wk fun σ H Q ⟨env, z, eH, G, re, o⟩ =>
  ⟨env, z, eH, G, re, (Out.bnd (Out.bnd o)).imp fun d z1 x1 g1 o1 v rv => by
    cases d with
    | bl k =>
      rw [Rep] at rv
      have o2 := Out.ret o1 g1 rfl
      refine ⟨k, rv, ?_⟩
      cases k with
      | true => exact iteT ⟨env, z1, rfl, g1, re.mono x1.vx, o2⟩
      | false => exact iteF ((Out.ret (show Out w z1 (M.ret (.bl false) z1.S) (PQ w Q) E from o2) g1 rfl) _ rep_bl)
    | _ => exact o1.elim⟩
theorem pm_or {rest : List Expr} (h : PM X w E a fa) (k : PM X w E (.BoolOp .Or (b :: rest) pos) fb) : PM X w E (.BoolOp .Or (a :: b :: rest) pos) (fOrV fa fb) := (pe_or h k).wk fun σ H Q ⟨env, z, eH, G, re, o⟩ =>
  ⟨env, z, eH, G, re, (Out.bnd (Out.bnd o)).imp fun d z1 x1 g1 o1 v rv => by
    cases d with
    | bl k =>
      rw [Rep] at rv
      have o2 := Out.ret o1 g1 rfl
      refine ⟨k, rv, ?_⟩
      cases k with
      | true => exact iteT ((Out.ret (show Out w z1 (M.ret (.bl true) z1.S) (PQ w Q) E from o2) g1 rfl) _ rep_bl)
      | false => exact iteF ⟨env, z1, rfl, g1, re.mono x1.vx, o2⟩
    | _ => exact o1.elim⟩
theorem pm_one {op} (h : PM X w E a fa) : PM X w E (.BoolOp op [a] pos) fa := pe_one h
theorem pm_not (h : PM X w E a fa) : PM X w E (.UnaryOp .Not a pos) (fNotV fa) := (pe_not h).wk fun σ H Q ⟨env, z, eH, G, re, o⟩ =>
  ⟨env, z, eH, G, re, (Out.bnd (Out.bnd o)).imp fun d z1 x1 g1 o1 v rv => by
    cases d with
    | bl k =>
      rw [Rep] at rv
      have o2 := Out.ret o1 g1 rfl
      exact ⟨k, rv, (Out.ret o2 g1 rfl) _ rep_bl⟩
    | _ => exact o1.elim⟩
end
end Ol

namespace Ol
open PySem PySem.Spec PyProof.Rows L2
abbrev big : Nat := 1000000
theorem big_le {n : Nat} (h : n ≤ big) : n ≤ sizeLine := Nat.le_trans h (by decide)
section
variable {w : Wd} {z : Sit}
theorem RepL.length : ∀ {ds : List D} {vs : List V}, RepL w z ds vs → ds.length = vs.length
  | [], _, h => by rw [RepL] at h; rw [h]; rfl
  | d :: ds, vs, h => by
    rw [RepL] at h
    obtain ⟨v, r, rfl, _, h2⟩ := h
    simp [h2.length]
theorem RepL.nil : RepL w z [] [] := by rw [RepL]
theorem RepL.cons {d : D} {v : V} {ds : List D} {vs : List V} (h : Rep w z d v) (r : RepL w z ds vs) : RepL w z (d :: ds) (v :: vs) := by rw [RepL]; exact ⟨v, vs, rfl, h, r⟩
theorem RepL.append : ∀ {ds es : List D} {vs us : List V}, RepL w z ds vs → RepL w z es us → RepL w z (ds ++ es) (vs ++ us)
  | [], _, _, _, h, r => by rw [RepL] at h; rw [h]; exact r
  | d :: ds, es, vs, us, h, r => by
    rw [RepL] at h
    obtain ⟨v, q, rfl, h1, h2⟩ := h
    exact RepL.cons h1 (h2.append r)
theorem RepL.get : ∀ {ds : List D} {vs : List V} {i : Nat} {d : D}, RepL w z ds vs → ds[i]? = some d → ∃ v, vs[i]? = some v ∧ Rep w z d v
  | [], _, _, _, h, e => by simp at e
  | x :: ds, vs, 0, d, h, e => by
    rw [RepL] at h
    obtain ⟨v, q, rfl, h1, h2⟩ := h
    simp at e
    subst e
    exact ⟨v, rfl, h1⟩
  | x :: ds, vs, i + 1, d, h, e => by
    rw [RepL] at h
    obtain ⟨v, q, rfl, h1, h2⟩ := h
    obtain ⟨u, h3, h4⟩ := h2.get (i := i) (d := d) (by simpa using e)
    exact ⟨u, by simpa using h3, h4⟩
theorem RepL.get' {ds : List D} {vs : List V} {i : Nat} {v : V} (r : RepL w z ds vs) (e : vs[i]? = some v) : ∃ d, ds[i]? = some d ∧ Rep w z d v := by
  have hl := r.length
  have hi := (List.getElem?_eq_some_iff.mp e).1
  obtain ⟨u, h1, h2⟩ := r.get (i := i) (d := ds[i]) (List.getElem?_eq_getElem (by omega))
  rw [e] at h1
  cases h1
  exact ⟨_, List.getElem?_eq_getElem (by omega), h2⟩
theorem RepL.drop : ∀ {ds : List D} {vs : List V} (n : Nat), RepL w z ds vs → RepL w z (ds.drop n) (vs.drop n)
  | _, _, 0, h => h
  | [], _, _ + 1, h => by rw [RepL] at h; rw [h]; exact RepL.nil
  | d :: ds, vs, n + 1, h => by
    rw [RepL] at h
    obtain ⟨v, q, rfl, h1, h2⟩ := h
    exact h2.drop n
theorem RepL.take : ∀ {ds : List D} {vs : List V} (n : Nat), RepL w z ds vs → RepL w z (ds.take n) (vs.take n)
  | _, _, 0, h => by simp; exact RepL.nil
  | [], _, _ + 1, h => by rw [RepL] at h; rw [h]; exact RepL.nil
  | d :: ds, vs, n + 1, h => by
    rw [RepL] at h
    obtain ⟨v, q, rfl, h1, h2⟩ := h
    exact RepL.cons h1 (h2.take n)
theorem RepL.set {d : D} {v : V} (q : Rep w z d v) : ∀ {ds : List D} {vs : List V} (i : Nat), RepL w z ds vs → RepL w z (ds.set i d) (vs.set i v)
  | [], _, _, h => by rw [RepL] at h; rw [h]; exact RepL.nil
  | x :: ds, vs, 0, h => by
    rw [RepL] at h
    obtain ⟨u, r, rfl, h1, h2⟩ := h
    exact RepL.cons q h2
  | x :: ds, vs, i + 1, h => by
    rw [RepL] at h
    obtain ⟨u, r, rfl, h1, h2⟩ := h
    exact RepL.cons h1 (RepL.set q i h2)
theorem RepL.ints : ∀ {ns : List Int} {vs : List V}, RepL w z (ns.map D.int) vs → vs = ns.map V.int
  | [], _, h => by rw [List.map_nil, RepL] at h; exact h
  | n :: ns, vs, h => by
    rw [List.map_cons, RepL] at h
    obtain ⟨u, r, rfl, h1, h2⟩ := h
    rw [Rep] at h1
    rw [h1, h2.ints]; rfl
theorem RepL.mkInts : ∀ (ns : List Int), RepL w z (ns.map D.int) (ns.map V.int)
  | [] => RepL.nil
  | n :: ns => RepL.cons rep_int (RepL.mkInts ns)
theorem RepL.bls : ∀ {ns : List Bool} {vs : List V}, RepL w z (ns.map D.bl) vs → vs = ns.map V.bl
  | [], _, h => by rw [List.map_nil, RepL] at h; exact h
  | n :: ns, vs, h => by
    rw [List.map_cons, RepL] at h
    obtain ⟨u, r, rfl, h1, h2⟩ := h
    rw [Rep] at h1
    rw [h1, h2.bls]; rfl
theorem RepL.strs : ∀ {ns : List Str} {vs : List V}, RepL w z (ns.map D.str) vs → vs = ns.map V.str
  | [], _, h => by rw [List.map_nil, RepL] at h; exact h
  | n :: ns, vs, h => by
    rw [List.map_cons, RepL] at h
    obtain ⟨u, r, rfl, h1, h2⟩ := h
    rw [Rep] at h1
    rw [h1, h2.strs]; rfl
theorem RepL.mkStrs : ∀ (ns : List Str), RepL w z (ns.map D.str) (ns.map V.str)
  | [] => RepL.nil
  | n :: ns => RepL.cons rep_str (RepL.mkStrs ns)
/-! lists, dicts and instances, written no more or not -/
def asL (S : Store) : D → Option (List D)
  | .lst ds => some ds
  | .loc i => match S[i]? with
    | some (.lst ds) => some ds
    | _ => none
  | _ => none
theorem asL_at {d : D} {v : V} {ds : List D} (g : Good w z) (r : Rep w z d v) (e : asL z.S d = some ds) : ∃ a vs, v = .ref a ∧ z.H a = some (.lst vs) ∧ RepL w z ds vs := by
  unfold asL at e
  split at e
  · cases e
    rw [Rep] at r
    obtain ⟨a, vs, h1, _, h2, h3⟩ := r
    exact ⟨a, vs, h1, h2, h3⟩
  · rw [Rep] at r
    obtain ⟨a, h1, h2⟩ := r
    split at e
    · cases e
      rename_i i ds' h3
      obtain ⟨vs, h4, h5⟩ := g.at_ _ _ _ h2 h3
      exact ⟨a, vs, h1, h4, h5⟩
    · cases e
  · cases e
def asT : D → Option (List D)
  | .tup ds => some ds
  | _ => none
theorem asT_at {d : D} {v : V} {ds : List D} (r : Rep w z d v) (e : asT d = some ds) : ∃ a vs, v = .ref a ∧ SqT w.K z.H a vs ∧ RepL w z ds vs := by
  unfold asT at e
  split at e
  · cases e
    rw [Rep] at r
    obtain ⟨a, vs, h1, h2, h3⟩ := r
    refine ⟨a, vs, h1, ?_, h3⟩
    rcases h2 with ⟨_, h2⟩ | h2
    · exact .inl h2
    · exact .inr h2
  · cases e
def asI (S : Store) : D → Option (Nat × List (Str × D))
  | .ins c fs => some (c, fs)
  | .loc i => match S[i]? with
    | some (.ins c fs) => some (c, fs)
    | _ => none
  | _ => none
theorem asI_at {d : D} {v : V} {c : Nat} {fs : List (Str × D)} (g : Good w z) (r : Rep w z d v) (e : asI z.S d = some (c, fs)) : ∃ a dx us, v = .ref a ∧ z.H a = some (.ins (w.cm c) dx us) ∧ RepF w z fs us := by
  unfold asI at e
  split at e
  · cases e
    rw [Rep] at r
    obtain ⟨a, dx, vs, h1, _, h2, h3⟩ := r
    exact ⟨a, dx, vs, h1, h2, h3⟩
  · rw [Rep] at r
    obtain ⟨a, h1, h2⟩ := r
    split at e
    · cases e
      rename_i i ds' h3 h4
      obtain ⟨dx, vs, h4, h5⟩ := g.at_ _ _ _ h2 h4
      exact ⟨a, dx, vs, h1, h4, h5⟩
    · cases e
  · cases e
def asK (S : Store) : D → Option (List (Key × D))
  | .dct ds => some ds
  | .loc i => match S[i]? with
    | some (.dct ds) => some ds
    | _ => none
  | _ => none
theorem asK_at {d : D} {v : V} {ds : List (Key × D)} (g : Good w z) (r : Rep w z d v) (e : asK z.S d = some ds) : ∃ a vs, v = .ref a ∧ z.H a = some (.dK vs) ∧ RepK w z ds vs := by
  unfold asK at e
  split at e
  · cases e
    rw [Rep] at r
    obtain ⟨a, vs, h1, _, h2, h3⟩ := r
    exact ⟨a, vs, h1, h2, h3⟩
  · rw [Rep] at r
    obtain ⟨a, h1, h2⟩ := r
    split at e
    · cases e
      rename_i i ds' h3
      obtain ⟨vs, h4, h5⟩ := g.at_ _ _ _ h2 h3
      exact ⟨a, vs, h1, h4, h5⟩
    · cases e
  · cases e
/-! new things -/
variable {E : XK} {Q : VK} {ds : List D} {vs : List V}
theorem Out.v {d : D} {v : V} (o : Out w z (M.ret d z.S) (PQ w Q) E) (g : Good w z) (r : Rep w z d v) : Q v z.H := (Out.ret o g rfl) v r
theorem new_lst (g : Good w z) (r : RepL w z ds vs) (o : Out w z (M.ret (.lst ds) z.S) (PQ w Q) E) : ∀ p, z.H p = none → Q (.ref p) (upd z.H p (.lst vs)) := fun p hp => by
  have s := Same.new (o := .lst vs) hp
  refine o (z.on (upd z.H p (.lst vs))) rfl (Ex.more s) (g.more s) (.ref p) ?_
  rw [Rep]
  exact ⟨p, vs, rfl, g.fresh hp, upd_same, r.mono (Ex.more s).vx⟩
theorem new_tup (g : Good w z) (r : RepL w z ds vs) (o : Out w z (M.ret (.tup ds) z.S) (PQ w Q) E) : ∀ p, z.H p = none → Q (.ref p) (upd z.H p (.tup vs)) := fun p hp => by
  have s := Same.new (o := .tup vs) hp
  refine o (z.on (upd z.H p (.tup vs))) rfl (Ex.more s) (g.more s) (.ref p) ?_
  rw [Rep]
  exact ⟨p, vs, rfl, .inl ⟨g.fresh hp, .inl upd_same⟩, r.mono (Ex.more s).vx⟩
theorem new_loc (g : Good w z) (r : RepL w z ds vs) (o : Out w z (.ok (D.loc z.S.length) (z.S ++ [.lst ds])) (PQ w Q) E) : ∀ p, z.H p = none → Q (.ref p) (upd z.H p (.lst vs)) := fun p hp => by
  have s := Same.new (o := .lst vs) hp
  have x : Ex z (z.add p (.lst ds) (upd z.H p (.lst vs))) := Ex.add g hp s
  refine o (z.add p (.lst ds) (upd z.H p (.lst vs))) rfl x (g.add hp s ⟨vs, upd_same, r.mono x.vx⟩ (by rw [upd_same]; simp)) (.ref p) ?_
  rw [Rep]
  refine ⟨p, rfl, ?_⟩
  show (z.mu ++ [p])[z.S.length]? = some p
  rw [← g.len, List.getElem?_append_right (Nat.le_refl _), Nat.sub_self]
  rfl
end
/-! ### operators -/
def dAdd : D → D → M D
  | .int i, .int j => M.ret (.int (i + j))
  | .str a, .str b => if a.length + b.length ≤ big then M.ret (.str (a ++ b)) else M.bad
  | .lst a, .lst b => if a.length + b.length ≤ big then M.ret (.lst (a ++ b)) else M.bad
  | .tup a, .tup b => if a ≠ [] ∧ b ≠ [] ∧ a.length + b.length ≤ big then M.ret (.tup (a ++ b)) else M.bad
  | _, _ => M.bad
def dSub : D → D → M D
  | .int i, .int j => M.ret (.int (i - j))
  | _, _ => M.bad
def dMul : D → D → M D
  | .int i, .int j => if i.natAbs < 2 ^ 64 ∨ j.natAbs < 2 ^ 64 ∨ i.natAbs.log2 + j.natAbs.log2 < 1000000 then M.ret (.int (i * j)) else M.bad
  | _, _ => M.bad
def dMod : D → D → M D
  | .int i, .int j => if 0 < j then M.ret (.int (i % j)) else M.bad
  | _, _ => M.bad
def dFdiv : D → D → M D
  | .int i, .int j => if 0 < j ∧ j.natAbs.log2 < 9000 then M.ret (.int (i / j)) else M.bad
  | _, _ => M.bad
def dPow : D → D → M D
  | .int i, .int j => if 0 ≤ j ∧ j ≤ 1000000 ∧ i.natAbs < 2 ^ 64 then M.ret (.int (i ^ j.toNat)) else M.bad
  | _, _ => M.bad
def dNeg : D → M D
  | .int i => M.ret (.int (-i))
  | _ => M.bad
/-- the order of texts -/
def ltS (a b : Str) : Bool := decide (a.cps.toList < b.cps.toList)
def dLt : D → D → M D
  | .int i, .int j => M.ret (.bl (decide (i < j)))
  | .str a, .str b => M.ret (.bl (ltS a b))
  | _, _ => M.bad
def dLe : D → D → M D
  | .int i, .int j => M.ret (.bl (decide (i ≤ j)))
  | .str a, .str b => M.ret (.bl (!ltS b a))
  | _, _ => M.bad
def dGt : D → D → M D
  | .int i, .int j => M.ret (.bl (decide (j < i)))
  | _, _ => M.bad
def dGe : D → D → M D
  | .int i, .int j => M.ret (.bl (decide (j ≤ i)))
  | _, _ => M.bad
mutual
def toPy (S : Store) : D → Option PyData
  | .non => some .none
  | .bl b => some (.bool b)
  | .int i => some (.int i)
  | .str s => some (.str s)
  | .lst ds => (toPyL S ds).map .list
  | .tup ds => (toPyL S ds).map .tuple
  | _ => none
def toPyL (S : Store) : List D → Option (List PyData)
  | [] => some []
  | d :: ds => match toPy S d, toPyL S ds with
    | some p, some ps => some (p :: ps)
    | _, _ => none
end
/-- the data, also of a list that may be written -/
def pyOf (S : Store) (d : D) : Option PyData := match d with
  | .loc i => match asL S (.loc i) with
    | some ds => (toPyL S ds).map .list
    | none => none
  | d => toPy S d
def dEqG (neg : Bool) (a b : D) : M D := fun S => match a, b with
  | .int i, .int j => .ok (.bl (neg ^^ decide (i = j))) S
  | .str i, .str j => .ok (.bl (neg ^^ decide (i = j))) S
  | .bl i, .bl j => .ok (.bl (neg ^^ decide (i = j))) S
  | a, b => match pyOf S a, pyOf S b with
    | some p, some q => if SeqAt.shaped p = true ∧ SeqAt.shaped q = true then .ok (.bl (neg ^^ PyData.eqv p q)) S else .bad
    | _, _ => .bad
abbrev dEq : D → D → M D := dEqG false
abbrev dNe : D → D → M D := dEqG true
def dIsN : D → D → M D
  | .non, .non => M.ret (.bl true)
  | .non, _ => M.bad
  | _, .non => M.ret (.bl false)
  | _, _ => M.bad
def dNotN : D → D → M D
  | .non, .non => M.ret (.bl false)
  | .non, _ => M.bad
  | _, .non => M.ret (.bl true)
  | _, _ => M.bad
section
variable {X : Cx} {w : Wd} {E : XK} {e a b c : Expr} {fa fb fc : Env8 → M D} {pos : Pos}
theorem pm_add (hK : X.K = w.K) (A : PM X w E a fa) (B : PM X w E b fb) : PM X w E (.BinOp a .Add b pos) (f2 dAdd fa fb) := by
  refine pm_2 (pe_op (opr_or op_add (opr_or op_add_str (opr_or op_cat op_catT))) A B) ?_
  intro z a b x y Q g ra rb o
  unfold dAdd at o
  split at o
  · rw [Rep] at ra rb
    exact .inl ⟨_, _, ra, rb, o.v g rep_int⟩
  · rw [Rep] at ra rb
    split at o
    · rename_i h
      exact .inr (.inl ⟨_, _, ra, rb, big_le h, o.v g rep_str⟩)
    · exact o.elim
  · rw [Rep] at ra rb
    obtain ⟨p, vs, e1, _, h1, r1⟩ := ra
    obtain ⟨q, us, e2, _, h2, r2⟩ := rb
    split at o
    · rename_i h
      rw [r1.length, r2.length] at h
      exact .inr (.inr (.inl ⟨p, q, vs, us, e1, e2, h1, h2, big_le h, new_lst g (r1.append r2) o⟩))
    · exact o.elim
  · obtain ⟨p, vs, e1, h1, r1⟩ := asT_at ra rfl
    obtain ⟨q, us, e2, h2, r2⟩ := asT_at rb rfl
    split at o
    · rename_i h
      obtain ⟨n1, n2, h⟩ := h
      rw [r1.length, r2.length] at h
      have m1 : vs ≠ [] := fun e => n1 (List.length_eq_zero_iff.mp (by rw [r1.length, e]; rfl))
      have m2 : us ≠ [] := fun e => n2 (List.length_eq_zero_iff.mp (by rw [r2.length, e]; rfl))
      rw [← hK] at h1 h2
      exact .inr (.inr (.inr ⟨p, q, vs, us, e1, e2, h1, h2, m1, big_le h, fun e => absurd e m2, fun _ => new_tup g (r1.append r2) o⟩))
    · exact o.elim
  · exact o.elim
theorem pm_sub (A : PM X w E a fa) (B : PM X w E b fb) : PM X w E (.BinOp a .Sub b pos) (f2 dSub fa fb) := by
  refine pm_2 (pe_op op_sub A B) ?_
  intro z a b x y Q g ra rb o
  unfold dSub at o
  split at o
  · rw [Rep] at ra rb
    exact ⟨_, _, ra, rb, o.v g rep_int⟩
  · exact o.elim
theorem pm_mul (A : PM X w E a fa) (B : PM X w E b fb) : PM X w E (.BinOp a .Mult b pos) (f2 dMul fa fb) := by
  refine pm_2 (pe_op (opr_or op_mul op_mulW) A B) ?_
  intro z a b x y Q g ra rb o
  unfold dMul at o
  split at o
  · rw [Rep] at ra rb
    split at o
    · rename_i h
      rcases h with h | h | h
      · exact .inl ⟨_, _, ra, rb, .inl ⟨by omega, by omega⟩, o.v g rep_int⟩
      · exact .inl ⟨_, _, ra, rb, .inr ⟨by omega, by omega⟩, o.v g rep_int⟩
      · exact .inr ⟨_, _, ra, rb, h, o.v g rep_int⟩
    · exact o.elim
  · exact o.elim
theorem pm_mod (A : PM X w E a fa) (B : PM X w E b fb) : PM X w E (.BinOp a .Mod b pos) (f2 dMod fa fb) := by
  refine pm_2 (pe_op op_mod A B) ?_
  intro z a b x y Q g ra rb o
  unfold dMod at o
  split at o
  · rw [Rep] at ra rb
    split at o
    · rename_i h
      exact ⟨_, _, ra, rb, h, o.v g rep_int⟩
    · exact o.elim
  · exact o.elim
theorem pm_fdiv (A : PM X w E a fa) (B : PM X w E b fb) : PM X w E (.BinOp a .FloorDiv b pos) (f2 dFdiv fa fb) := by
  refine pm_2 (pe_op op_fdivW A B) ?_
  intro z a b x y Q g ra rb o
  unfold dFdiv at o
  split at o
  · rw [Rep] at ra rb
    split at o
    · rename_i h
      exact ⟨_, _, ra, rb, h, o.v g rep_int⟩
    · exact o.elim
  · exact o.elim
theorem pm_pow (A : PM X w E a fa) (B : PM X w E b fb) : PM X w E (.BinOp a .Pow b pos) (f2 dPow fa fb) := by
  refine pm_2 (pe_op op_pow A B) ?_
  intro z a b x y Q g ra rb o
  unfold dPow at o
  split at o
  · rw [Rep] at ra rb
    split at o
    · rename_i h
      exact ⟨_, _, ra, rb, h, o.v g rep_int⟩
    · exact o.elim
  · exact o.elim
theorem pm_neg (A : PM X w E a fa) : PM X w E (.UnaryOp .USub a pos) (f1 dNeg fa) := by
  refine pm_1 (pe_un un_neg A) ?_
  intro z a x Q g ra o
  unfold dNeg at o
  split at o
  · rw [Rep] at ra
    exact ⟨_, ra, o.v g rep_int⟩
  · exact o.elim
/-! comparisons: an operator's rule and its function -/
structure Cmp8 (X : Cx) (w : Wd) (E : XK) (op : CmpOp) (g : D → D → M D) : Prop where
  ex : ∃ r, OpR X (compareOp op) r ∧ Does2 w E r g
theorem pm_cmp {op : CmpOp} {g : D → D → M D} (C : Cmp8 X w E op g) (A : PM X w E a fa) (B : PM X w E b fb) (hm : behindInMarks op b = false) : PM X w E (.Compare a [op] [b] pos) (f2 g fa fb) := by
  obtain ⟨r, h1, h2⟩ := C.ex
  exact pm_2 (pe_cmpR h1 A B hm) h2
theorem pmt_cm {op : CmpOp} {g : D → D → M D} (C : Cmp8 X w E op g) (A : PM X w E a fa) (B : PM X w E b fb) (hm : behindInMarks op b = false) : PMT X w E (.Compare a [op] [b] pos) (f1 dBool (f2 g fa fb)) := by
  obtain ⟨r, h1, h2⟩ := C.ex
  exact pmt_cmp (pt_cmpR h1 A B hm) h2
theorem pm_cmp2 {op op' : CmpOp} {g g' : D → D → M D} (C : Cmp8 X w E op g) (C' : Cmp8 X w E op' g') (A : PM X w E a fa) (B : PM X w E b fb) (Cc : PM X w E c fc) (hm : lastMarks [op, op'] [b, c] = false := by with_unfolding_all rfl) : PM X w E (.Compare a [op, op'] [b, c] pos) (fChain g g' fa fb fc) := by
  obtain ⟨r, h1, h2⟩ := C.ex
  obtain ⟨r', h1', h2'⟩ := C'.ex
  exact pm_chain (pe_chain h1 h1' A B Cc hm) h2 h2'
theorem pmt_cm2 {op op' : CmpOp} {g g' : D → D → M D} (C : Cmp8 X w E op g) (C' : Cmp8 X w E op' g') (A : PM X w E a fa) (B : PM X w E b fb) (Cc : PM X w E c fc) (hm : lastMarks [op, op'] [b, c] = false := by with_unfolding_all rfl) : PMT X w E (.Compare a [op, op'] [b, c] pos) (f1 dBool (fChain g g' fa fb fc)) := by
  obtain ⟨r, h1, h2⟩ := C.ex
  obtain ⟨r', h1', h2'⟩ := C'.ex
  exact pmt_chain (pt_chain h1 h1' A B Cc hm) h2 h2'
theorem c_lt : Cmp8 X w E .Lt dLt := ⟨_, opr_or op_lt op_lt_str, by
  intro z a b x y Q g ra rb o
  unfold dLt at o
  split at o
  · rw [Rep] at ra rb
    exact .inl ⟨_, _, ra, rb, o.v g rep_bl⟩
  · rw [Rep] at ra rb
    exact .inr ⟨_, _, ra, rb, o.v g rep_bl⟩
  · exact o.elim⟩
theorem c_le : Cmp8 X w E .LtE dLe := ⟨_, opr_or op_le op_le_str, by
  intro z a b x y Q g ra rb o
  unfold dLe at o
  split at o
  · rw [Rep] at ra rb
    exact .inl ⟨_, _, ra, rb, o.v g rep_bl⟩
  · rw [Rep] at ra rb
    exact .inr ⟨_, _, ra, rb, o.v g rep_bl⟩
  · exact o.elim⟩
theorem c_gt : Cmp8 X w E .Gt dGt := ⟨_, op_gt, by
  intro z a b x y Q g ra rb o
  unfold dGt at o
  split at o
  · rw [Rep] at ra rb
    exact ⟨_, _, ra, rb, o.v g rep_bl⟩
  · exact o.elim⟩
theorem c_ge : Cmp8 X w E .GtE dGe := ⟨_, op_ge, by
  intro z a b x y Q g ra rb o
  unfold dGe at o
  split at o
  · rw [Rep] at ra rb
    exact ⟨_, _, ra, rb, o.v g rep_bl⟩
  · exact o.elim⟩
mutual
theorem toPy_dp {z : Sit} : ∀ {d : D} {v : V} {p : PyData}, Rep w z d v → toPy z.S d = some p → Dp w.K z.H v p
  | .non, _, _, r, e => by rw [Rep] at r; rw [toPy] at e; cases e; rw [r]; exact .non
  | .bl b, _, _, r, e => by rw [Rep] at r; rw [toPy] at e; cases e; rw [r]; exact .bl b
  | .int b, _, _, r, e => by rw [Rep] at r; rw [toPy] at e; cases e; rw [r]; exact .int b
  | .str b, _, _, r, e => by rw [Rep] at r; rw [toPy] at e; cases e; rw [r]; exact .str b
  | .lst ds, _, _, r, e => by
    rw [Rep] at r
    rw [toPy, Option.map_eq_some_iff] at e
    obtain ⟨a, vs, rfl, _, h, r⟩ := r
    obtain ⟨ps, e, rfl⟩ := e
    exact .lst (.inl (.inl h)) (toPyL_dp r e)
  | .tup ds, _, _, r, e => by
    obtain ⟨a, vs, rfl, h, r⟩ := asT_at r rfl
    rw [toPy, Option.map_eq_some_iff] at e
    obtain ⟨ps, e, rfl⟩ := e
    exact .tup h (toPyL_dp r e)
  | .dct _, _, _, _, e => by rw [toPy] at e; cases e; all_goals (intros; contradiction)
  | .ins _ _, _, _, _, e => by rw [toPy] at e; cases e; all_goals (intros; contradiction)
  | .err _ _, _, _, _, e => by rw [toPy] at e; cases e; all_goals (intros; contradiction)
  | .cls _, _, _, _, e => by rw [toPy] at e; cases e; all_goals (intros; contradiction)
  | .ty _, _, _, _, e => by rw [toPy] at e; cases e; all_goals (intros; contradiction)
  | .loc _, _, _, _, e => by rw [toPy] at e; cases e; all_goals (intros; contradiction)
  | .scr _, _, _, _, e => by rw [toPy] at e; cases e; all_goals (intros; contradiction)
theorem toPyL_dp {z : Sit} : ∀ {ds : List D} {vs : List V} {ps : List PyData}, RepL w z ds vs → toPyL z.S ds = some ps → DpAll w.K z.H vs ps
  | [], _, _, r, e => by rw [RepL] at r; rw [toPyL] at e; cases e; rw [r]; exact .nil
  | d :: ds, _, _, r, e => by
    rw [RepL] at r
    rw [toPyL] at e
    obtain ⟨v, q, rfl, r1, r2⟩ := r
    cases h1 : toPy z.S d with
    | none => rw [h1] at e; cases e
    | some p =>
      cases h2 : toPyL z.S ds with
      | none => rw [h1, h2] at e; cases e
      | some ps =>
        rw [h1, h2] at e
        cases e
        exact .cons (toPy_dp r1 h1) (toPyL_dp r2 h2)
end
theorem pyOf_dp {z : Sit} {d : D} {v : V} {p : PyData} (g : Good w z) (r : Rep w z d v) (e : pyOf z.S d = some p) : Dp w.K z.H v p := by
  unfold pyOf at e
  split at e
  · split at e
    · rename_i h
      obtain ⟨a, vs, rfl, h1, r1⟩ := asL_at g r h
      rw [Option.map_eq_some_iff] at e
      obtain ⟨ps, e, rfl⟩ := e
      exact .lst (.inl (.inl h1)) (toPyL_dp r1 e)
    · cases e
  · exact toPy_dp r e
theorem c_eq (hK : X.K = w.K) {k : Nat} (hr : Room k X.A) : Cmp8 X w E .Eq dEq := ⟨_, opr_or op_eq (op_eqDK hK hr.units), by
  intro z a b x y Q g ra rb o
  unfold dEq dEqG at o
  split at o
  · rw [Rep] at ra rb
    subst ra rb
    exact .inl (r_eqI (by simpa using o.v g rep_bl))
  · rw [Rep] at ra rb
    subst ra rb
    exact .inl (r_eqS (by simpa using o.v g rep_bl))
  · rw [Rep] at ra rb
    subst ra rb
    exact .inl (r_eqB (by simpa using o.v g rep_bl))
  · split at o
    · split at o
      · rename_i h1 h2 h
        exact .inr ⟨_, _, pyOf_dp g ra h1, pyOf_dp g rb h2, h.1, h.2, by simpa using o.v g rep_bl⟩
      · exact o.elim
    · exact o.elim⟩
theorem c_ne (hK : X.K = w.K) {k : Nat} (hr : Room k X.A) : Cmp8 X w E .NotEq dNe := ⟨_, opr_or op_ne (op_neDK hK hr.units), by
  intro z a b x y Q g ra rb o
  unfold dNe dEqG at o
  split at o
  · rw [Rep] at ra rb
    subst ra rb
    exact .inl (r_neI (by simpa using o.v g rep_bl))
  · rw [Rep] at ra rb
    subst ra rb
    exact .inl (r_neS (by simpa using o.v g rep_bl))
  · rw [Rep] at ra rb
    subst ra rb
    exact .inl (r_neB (by simpa using o.v g rep_bl))
  · split at o
    · split at o
      · rename_i h1 h2 h
        exact .inr ⟨_, _, pyOf_dp g ra h1, pyOf_dp g rb h2, h.1, h.2, by simpa using o.v g rep_bl⟩
      · exact o.elim
    · exact o.elim⟩
theorem rep_ne_non {z : Sit} {d : D} {v : V} (r : Rep w z d v) (h : d ≠ .non) : v ≠ .non := by
  cases d with
  | non => exact absurd rfl h
  | bl _ => rw [Rep] at r; rw [r]; simp
  | int _ => rw [Rep] at r; rw [r]; simp
  | str _ => rw [Rep] at r; rw [r]; simp
  | lst _ => rw [Rep] at r; obtain ⟨a, vs, e, _⟩ := r; rw [e]; simp
  | tup _ => rw [Rep] at r; obtain ⟨a, vs, e, _⟩ := r; rw [e]; simp
  | dct _ => rw [Rep] at r; obtain ⟨a, vs, e, _⟩ := r; rw [e]; simp
  | ins _ _ => rw [Rep] at r; obtain ⟨a, dx, vs, e, _⟩ := r; rw [e]; simp
  | err _ _ => rw [Rep] at r; obtain ⟨a, dx, vs, e, _⟩ := r; rw [e]; simp
  | cls _ => rw [Rep] at r; rw [r]; simp
  | ty _ => rw [Rep] at r; rw [r]; simp
  | loc _ => rw [Rep] at r; obtain ⟨a, e, _⟩ := r; rw [e]; simp
  | scr _ => rw [Rep] at r; obtain ⟨a, e, _⟩ := r; rw [e]; simp
theorem c_isN : Cmp8 X w E .Is dIsN := ⟨_, op_isN, by
  intro z a b x y Q g ra rb o
  unfold dIsN at o
  split at o
  · rw [Rep] at ra rb
    subst ra rb
    exact ⟨rfl, o.v g rep_bl⟩
  · exact o.elim
  · rename_i h
    rw [Rep] at rb
    subst rb
    refine ⟨rfl, ?_⟩
    rw [decide_eq_false (rep_ne_non ra fun e => h e)]
    exact o.v g rep_bl
  · exact o.elim⟩
theorem c_notN : Cmp8 X w E .IsNot dNotN := ⟨_, op_notN, by
  intro z a b x y Q g ra rb o
  unfold dNotN at o
  split at o
  · rw [Rep] at ra rb
    subst ra rb
    exact ⟨rfl, o.v g rep_bl⟩
  · exact o.elim
  · rename_i h
    rw [Rep] at rb
    subst rb
    refine ⟨rfl, ?_⟩
    rw [decide_eq_false (rep_ne_non ra fun e => h e)]
    exact o.v g rep_bl
  · exact o.elim⟩
end
end Ol

namespace Ol
open PySem PySem.Spec PyProof.Rows L2
/-! ### membership, truth, subscripts, slices -/
def inS (a b : Str) : Bool := !(Builtin.Str.occurrences b a 0 b.length 1).isEmpty
def flatD : D → Option V
  | .non => some .non
  | .bl b => some (.bl b)
  | .int i => some (.int i)
  | .str s => some (.str s)
  | _ => none
def flatL : List D → Option (List V)
  | [] => some []
  | d :: ds => match flatD d, flatL ds with
    | some v, some vs => some (v :: vs)
    | _, _ => none
theorem flatD_at {w : Wd} {z : Sit} {d : D} {v u : V} (r : Rep w z d v) (e : flatD d = some u) : v = u ∧ flatV v = true := by
  cases d with
  | non => rw [Rep] at r; cases e; exact ⟨r, by rw [r]; rfl⟩
  | bl b => rw [Rep] at r; cases e; exact ⟨r, by rw [r]; rfl⟩
  | int b => rw [Rep] at r; cases e; exact ⟨r, by rw [r]; rfl⟩
  | str b => rw [Rep] at r; cases e; exact ⟨r, by rw [r]; rfl⟩
  | _ => cases e
theorem flatL_at {w : Wd} {z : Sit} : ∀ {ds : List D} {vs us : List V}, RepL w z ds vs → flatL ds = some us → vs = us ∧ vs.all flatV = true
  | [], _, _, r, e => by rw [RepL] at r; cases e; rw [r]; exact ⟨rfl, rfl⟩
  | d :: ds, _, us, r, e => by
    rw [RepL] at r
    obtain ⟨v, q, rfl, r1, r2⟩ := r
    rw [flatL] at e
    cases h1 : flatD d with
    | none => rw [h1] at e; cases e
    | some p =>
      cases h2 : flatL ds with
      | none => rw [h1, h2] at e; cases e
      | some ps =>
        rw [h1, h2] at e
        cases e
        obtain ⟨rfl, f1⟩ := flatD_at r1 h1
        obtain ⟨rfl, f2⟩ := flatL_at r2 h2
        exact ⟨rfl, by rw [List.all_cons, f1, f2]; rfl⟩
/-- x in a list or tuple of flat things, in a text -/
def dInG (neg : Bool) (a b : D) : M D := fun S => match a, b with
  | .str x, .str y => .ok (.bl (neg ^^ inS x y)) S
  | a, b => match flatD a, (match asL S b with | some ds => flatL ds | none => match asT b with | some ds => flatL ds | none => none) with
    | some x, some xs => .ok (.bl (neg ^^ inV x xs)) S
    | _, _ => .bad
abbrev dIn : D → D → M D := dInG false
abbrev dNotIn : D → D → M D := dInG true
def dTru (d : D) : M Bool := fun S => match d with
  | .non => .ok false S
  | .bl b => .ok b S
  | .int i => .ok (i != 0) S
  | .str s => if s.length ≤ big then .ok ((s.length : Int) != 0) S else .bad
  | .tup ds => .ok (!ds.isEmpty) S
  | d => match asL S d with
    | some ds => .ok (!ds.isEmpty) S
    | none => match asK S d with
      | some kvs => .ok (!kvs.isEmpty) S
      | none => .bad
def dIx (a b : D) : M D := fun S => match b with
  | .int i => match a with
    | .str s => if s.length ≤ big then (match atI s.cps.toList i with | some c => .ok (.str ⟨#[c]⟩) S | none => .bad) else .bad
    | .tup ds => (match atI ds i with | some d => .ok d S | none => .bad)
    | a => match asL S a with
      | some ds => (match atI ds i with | some d => .ok d S | none => .bad)
      | none => .bad
  | _ => .bad
def cutD (xs : List D) (lo hi : Option Int) : List D := (xs.drop (HT.sIx xs.length 0 lo)).take (HT.sIx xs.length xs.length hi - HT.sIx xs.length 0 lo)
def dSl (a : D) (lo hi : Option Int) : M D := fun S => match a with
  | .str s => if s.length ≤ big then .ok (.str (cutS s lo hi)) S else .bad
  | .tup ds => .ok (.tup (cutD ds lo hi)) S
  | .scr ns => .ok (.lst (cutD (ns.map .int) lo hi)) S
  | a => match asL S a with
    | some ds => .ok (.lst (cutD ds lo hi)) S
    | none => .bad
def dPart : D → M (Option Int)
  | .int i => M.ret (some i)
  | _ => M.bad
def fSl (fa : Env8 → M D) (fl fh : Env8 → M (Option Int)) : Env8 → M D := fun env => (fa env).bnd fun x => (fl env).bnd fun l => (fh env).bnd fun h => dSl x l h
def fLst (fs : Env8 → M (List D)) : Env8 → M D := fun env => (fs env).bnd fun ds => if ds.length ≤ big then M.ret (.lst ds) else M.bad
def fTup (fs : Env8 → M (List D)) : Env8 → M D := fun env => (fs env).bnd fun ds => if ds.length ≤ big then M.ret (.tup ds) else M.bad
/-- a list that may be written -/
def fLstM (fs : Env8 → M (List D)) : Env8 → M D := fun env => (fs env).bnd fun ds => if ds.length ≤ big then (fun S => .ok (.loc S.length) (S ++ [.lst ds])) else M.bad
section
variable {X : Cx} {w : Wd} {E : XK} {e a b c : Expr} {fa fb fc : Env8 → M D} {pos : Pos}
theorem RepL.isEmpty {z : Sit} {ds : List D} {vs : List V} (r : RepL w z ds vs) : ds.isEmpty = vs.isEmpty := by
  cases ds with
  | nil => rw [RepL] at r; rw [r]; rfl
  | cons d ds => rw [RepL] at r; obtain ⟨v, q, rfl, _⟩ := r; rfl
theorem RepK.isEmpty {z : Sit} {ds : List (Key × D)} {vs : List (Key × V)} (r : RepK w z ds vs) : ds.isEmpty = vs.isEmpty := by
  cases ds with
  | nil => rw [RepK] at r; rw [r]; rfl
  | cons d ds => obtain ⟨k, d⟩ := d; rw [RepK] at r; obtain ⟨v, q, rfl, _⟩ := r; rfl
theorem c_in (hK : X.K = w.K) : Cmp8 X w E .In dIn := ⟨_, opr_or op_in_str (op_inK hK), by
  intro z a b x y Q g ra rb o
  unfold dIn dInG at o
  split at o
  · rw [Rep] at ra rb
    exact .inl ⟨_, _, ra, rb, by simpa [inS] using o.v g rep_bl⟩
  · split at o
    · rename_i h1 h2
      obtain ⟨rfl, f1⟩ := flatD_at ra h1
      refine .inr ?_
      split at h2
      · rename_i h3
        obtain ⟨p, vs, rfl, h4, r4⟩ := asL_at g rb h3
        obtain ⟨rfl, f2⟩ := flatL_at r4 h2
        exact ⟨p, _, rfl, .inl (.inl (.inl h4)), f1, f2, by simpa using o.v g rep_bl⟩
      · split at h2
        · rename_i h3
          obtain ⟨p, vs, rfl, h4, r4⟩ := asT_at rb h3
          obtain ⟨rfl, f2⟩ := flatL_at r4 h2
          exact ⟨p, _, rfl, .inr h4, f1, f2, by simpa using o.v g rep_bl⟩
        · cases h2
    · exact o.elim⟩
theorem c_notIn (hK : X.K = w.K) : Cmp8 X w E .NotIn dNotIn := ⟨_, opr_or op_notin_str (op_notInK hK), by
  intro z a b x y Q g ra rb o
  unfold dNotIn dInG at o
  split at o
  · rw [Rep] at ra rb
    exact .inl ⟨_, _, ra, rb, by simpa [inS] using o.v g rep_bl⟩
  · split at o
    · rename_i h1 h2
      obtain ⟨rfl, f1⟩ := flatD_at ra h1
      refine .inr ?_
      split at h2
      · rename_i h3
        obtain ⟨p, vs, rfl, h4, r4⟩ := asL_at g rb h3
        obtain ⟨rfl, f2⟩ := flatL_at r4 h2
        exact ⟨p, _, rfl, .inl (.inl (.inl h4)), f1, f2, by simpa using o.v g rep_bl⟩
      · split at h2
        · rename_i h3
          obtain ⟨p, vs, rfl, h4, r4⟩ := asT_at rb h3
          obtain ⟨rfl, f2⟩ := flatL_at r4 h2
          exact ⟨p, _, rfl, .inr h4, f1, f2, by simpa using o.v g rep_bl⟩
        · cases h2
    · exact o.elim⟩
theorem pmt_truth (hK : X.K = w.K) (A : PM X w E a fa) (he : ∀ whole, isTrue a X.env whole = (do let v ← whole; standAt a.pos; holding [v] (truthy v)) := by intro _; rfl) : PMT X w E a (f1 dTru fa) := (pt_truth A he).wk fun σ H Q ⟨env, z, eH, G, re, o⟩ => by
  rw [hK]
  refine ⟨env, z, eH, G, re, (Out.bnd o).imp fun d z1 x1 g1 o1 v rv => ?_⟩
  have fin : ∀ b : Bool, Out w z1 (.ok b z1.S) (fun b z' => Q b z'.H) E → Q b z1.H := fun b h => h z1 rfl (Ex.refl _) g1
  unfold dTru at o1
  split at o1
  · rw [Rep] at rv; exact ⟨_, by rw [rv]; rfl, fin _ o1⟩
  · rw [Rep] at rv; exact ⟨_, by rw [rv]; rfl, fin _ o1⟩
  · rw [Rep] at rv; exact ⟨_, by rw [rv]; rfl, fin _ o1⟩
  · rw [Rep] at rv
    split at o1
    · rename_i h
      exact ⟨_, by rw [rv]; exact ⟨big_le h, rfl⟩, fin _ o1⟩
    · exact o1.elim
  · obtain ⟨p, vs, rfl, h4, r4⟩ := asT_at rv rfl
    exact ⟨_, .inr (.inl ⟨vs, h4, by rw [r4.isEmpty]⟩), fin _ o1⟩
  · split at o1
    · rename_i h
      obtain ⟨p, vs, rfl, h4, r4⟩ := asL_at g1 rv h
      exact ⟨_, .inl ⟨vs, .inl (.inl h4), by rw [r4.isEmpty]⟩, fin _ o1⟩
    · split at o1
      · rename_i h
        obtain ⟨p, vs, rfl, h4, r4⟩ := asK_at g1 rv h
        exact ⟨_, .inr (.inr ⟨vs, h4, by rw [r4.isEmpty]⟩), fin _ o1⟩
      · exact o1.elim
theorem RepL.atI {z : Sit} {ds : List D} {vs : List V} {i : Int} {d : D} (r : RepL w z ds vs) (e : atI ds i = some d) : ∃ v, L2.atI vs i = some v ∧ Rep w z d v := by
  unfold L2.atI at e ⊢
  rw [← r.length]
  cases h : ixN ds.length i with
  | none => rw [h] at e; cases e
  | some j =>
    rw [h] at e
    exact r.get e
theorem ix_all (hK : X.K = w.K) : IxR X (alt2 (rIxL w.K) (alt2 (rIxT w.K) rIxS)) := ixr_or (ix_listK hK) (ixr_or (ix_tupK hK) ix_str)
theorem pm_ix (hK : X.K = w.K) (A : PM X w E a fa) (B : PM X w E b fb) (hs : PlainIx b) : PM X w E (.Subscript a b pos) (f2 dIx fa fb) := by
  refine pm_2 (pe_ix (ix_all hK) A B hs) ?_
  intro z a b x y Q g ra rb o
  have fin : ∀ {d : D} {v : V}, Out w z (.ok d z.S) (PQ w Q) E → Rep w z d v → Q v z.H := fun o r => o z rfl (Ex.refl _) g _ r
  unfold dIx at o
  split at o
  · rw [Rep] at rb
    split at o
    · split at o
      · rename_i h
        split at o
        · rename_i h2
          rw [Rep] at ra
          exact .inr (.inr ⟨_, _, _, ra, rb, big_le h, h2, fin o rep_str⟩)
        · exact o.elim
      · exact o.elim
    · split at o
      · rename_i h2
        obtain ⟨p, vs, e1, h4, r4⟩ := asT_at ra rfl
        obtain ⟨v, h5, r5⟩ := r4.atI h2
        exact .inr (.inl ⟨p, vs, _, v, e1, rb, h4, h5, fin o r5⟩)
      · exact o.elim
    · split at o
      · rename_i h3
        split at o
        · rename_i h2
          obtain ⟨p, vs, e1, h4, r4⟩ := asL_at g ra h3
          obtain ⟨v, h5, r5⟩ := r4.atI h2
          exact .inl ⟨p, vs, _, v, e1, rb, .inl (.inl h4), h5, fin o r5⟩
        · exact o.elim
      · exact o.elim
  · exact o.elim
theorem sl_listK (hK : X.K = w.K) : SlR X (rSlL w.K) := by rw [← hK]; exact sl_list
theorem sl_tupAK (hK : X.K = w.K) : SlR X (rSlA w.K) := by rw [← hK]; exact sl_tupA
abbrev PMO (X : Cx) (w : Wd) (E : XK) (e : Option Expr) (f : Env8 → M (Option Int)) : Prop := PO X e (fun σ H Q => ∃ (env : Env8) (z : Sit), z.H = H ∧ Good w z ∧ REnv w z env σ ∧ Out w z (f env z.S) (fun d z' => Q d z'.H) E)
theorem pmo_none : PMO X w E none (fun _ => M.ret none) := ⟨fun pins s σ H Q I ⟨env, z, eH, G, re, o⟩ => po_none.run pins s σ H Q I (by subst eH; exact Out.ret o G rfl)⟩
theorem pmo_some (A : PM X w E a fa) : PMO X w E (some a) (f1 dPart fa) := ⟨fun pins s σ H Q I ⟨env, z, eH, G, re, o⟩ => (po_some A).run pins s σ H Q I ⟨env, z, eH, G, re, (Out.bnd o).imp fun d z1 x1 g1 o1 v rv => by
  unfold dPart at o1
  split at o1
  · rw [Rep] at rv
    exact ⟨_, rv, Out.ret o1 g1 rfl⟩
  · exact o1.elim⟩⟩
theorem pm_sl (hK : X.K = w.K) {lo hi : Option Expr} {fl fh : Env8 → M (Option Int)} {p2 : Pos} (A : PM X w E a fa) (L : PMO X w E lo fl) (Hh : PMO X w E hi fh) : PM X w E (.Subscript a (.Slice lo hi none p2) pos) (fSl fa fl fh) := by
  refine (pe_slice (SlR.or (sl_listK hK) (SlR.or (sl_tupAK hK) sl_str)) A L Hh).wk fun σ H Q ⟨env, z, eH, G, re, o⟩ => ?_
  refine ⟨env, z, eH, G, re, (Out.bnd o).imp fun d z1 x1 g1 o1 x rx => ⟨env, z1, rfl, g1, re.mono x1.vx, (Out.bnd o1).imp fun l z2 x2 g2 o2 => ⟨env, z2, rfl, g2, (re.mono x1.vx).mono x2.vx, (Out.bnd o2).imp fun h z3 x3 g3 o3 => ?_⟩⟩⟩
  have rx := (rx.mono x2.vx).mono x3.vx
  have cut : ∀ {ds : List D} {vs : List V}, RepL w z3 ds vs → RepL w z3 (cutD ds l h) (cutV vs l h) := fun {ds vs} r => by
    unfold cutD cutV
    rw [r.length]
    exact (r.drop _).take _
  unfold dSl at o3
  split at o3
  · split at o3
    · rename_i hb
      rw [Rep] at rx
      exact .inr (.inr ⟨_, rx, big_le hb, o3 z3 rfl (Ex.refl _) g3 _ rep_str⟩)
    · exact o3.elim
  · have rx' := rx
    obtain ⟨p, vs, e1, h4, r4⟩ := asT_at rx rfl
    subst e1
    refine .inr (.inl ⟨p, vs, rfl, h4, fun hw => ?_, fun _ q hq => new_tup g3 (cut r4) o3 q hq⟩)
    refine o3 z3 rfl (Ex.refl _) g3 _ ?_
    have e2 : ∀ {ds : List D}, RepL w z3 ds vs → cutD ds l h = ds := fun {ds} r4 => by
      unfold cutD
      rw [r4.length, hw.1, hw.2, List.drop_zero, Nat.sub_zero, ← r4.length, List.take_length]
    rw [e2 r4]
    exact rx'
  · rw [Rep] at rx
    obtain ⟨p, e1, h4⟩ := rx
    refine .inl ⟨p, _, e1, ?_, fun q hq => new_lst g3 (cut (RepL.mkInts _)) o3 q hq⟩
    rcases h4 with ⟨_, h4⟩ | h4
    · exact .inl h4
    · exact .inr h4
  · split at o3
    · rename_i h3
      obtain ⟨p, vs, e1, h4, r4⟩ := asL_at g3 rx h3
      exact .inl ⟨p, vs, e1, .inl (.inl h4), fun q hq => new_lst g3 (cut r4) o3 q hq⟩
    · exact o3.elim
/-! displays -/
variable {es : List Expr} {fs : Env8 → M (List D)}
theorem pm_lst (A : PMA X w E es fs) : PM X w E (.List es pos) (fLst fs) := (pe_lst A).wk fun σ H Q ⟨env, z, eH, G, re, o⟩ => ⟨env, z, eH, G, re, (Out.bnd o).imp fun ds z1 x1 g1 o1 vs rv => by
  split at o1
  · rename_i h
    exact ⟨big_le (by rw [← rv.length]; exact h), new_lst g1 rv o1⟩
  · exact o1.elim⟩
theorem pm_lstM (A : PMA X w E es fs) : PM X w E (.List es pos) (fLstM fs) := (pe_lst A).wk fun σ H Q ⟨env, z, eH, G, re, o⟩ => ⟨env, z, eH, G, re, (Out.bnd o).imp fun ds z1 x1 g1 o1 vs rv => by
  split at o1
  · rename_i h
    exact ⟨big_le (by rw [← rv.length]; exact h), new_loc g1 rv o1⟩
  · exact o1.elim⟩
theorem pm_tup {k} (A : PMA X w E es fs) : PM X w E (.Tuple es k pos) (fTup fs) := (pe_tup A).wk fun σ H Q ⟨env, z, eH, G, re, o⟩ => ⟨env, z, eH, G, re, (Out.bnd o).imp fun ds z1 x1 g1 o1 vs rv => by
  split at o1
  · rename_i h
    exact ⟨big_le (by rw [← rv.length]; exact h), new_tup g1 rv o1⟩
  · exact o1.elim⟩
end
/-! ### targets -/
inductive Pat where
  | nm (i : Nat) | tp (ps : List Pat)
def asSq (S : Store) (d : D) : Option (List D) := match asT d with
  | some ds => some ds
  | none => asL S d
mutual
def bindP (S : Store) : Pat → D → Env8 → Option Env8
  | .nm i, d, env => some (env.set i (some d))
  | .tp ps, d, env => match asSq S d with
    | some ds => bindPs S ps ds env
    | none => none
def bindPs (S : Store) : List Pat → List D → Env8 → Option Env8
  | [], [], env => some env
  | p :: ps, d :: ds, env => match bindP S p d env with
    | some env' => bindPs S ps ds env'
    | none => none
  | _, _, _ => none
end
mutual
def tgP (K : PySem.W.Frag) : Pat → TG
  | .nm i => gName i
  | .tp ps => fun v σ H Q => gTup K ps.length (tgPs K ps) v σ H Q ∨ gUnl K ps.length (tgPs K ps) v σ H Q
def tgPs (K : PySem.W.Frag) : List Pat → TGs
  | [] => gNil
  | p :: ps => gCons (tgP K p) (tgPs K ps)
end
mutual
def Pat.slots : Pat → List Nat
  | .nm i => [i]
  | .tp ps => Pat.slotss ps
def Pat.slotss : List Pat → List Nat
  | [] => []
  | p :: ps => p.slots ++ Pat.slotss ps
end
/-- two rows of slots that differ at some places only -/
def Off (is : List Nat) (σ σ' : L2.St) : Prop := σ'.length = σ.length ∧ ∀ j, j ∉ is → σ'[j]? = σ[j]?
theorem Off.refl (is : List Nat) (σ : L2.St) : Off is σ σ := ⟨rfl, fun _ _ => rfl⟩
theorem Off.trans {is : List Nat} {a b c : L2.St} (x : Off is a b) (y : Off is b c) : Off is a c := ⟨y.1.trans x.1, fun j h => (y.2 j h).trans (x.2 j h)⟩
theorem Off.wipe {is : List Nat} {σ σ' : L2.St} (h : Off is σ σ') {vs : List Nat} (hv : ∀ i ∈ is, i ∈ vs) : L2.wipe σ' vs = L2.wipe σ vs := by
  apply List.ext_getElem?
  intro j
  by_cases hj : j ∈ vs
  · have e : ∀ s : L2.St, j < s.length → (L2.wipe s vs)[j]? = some none := fun s hs => by
      cases q : (L2.wipe s vs)[j]? with
      | none => have := List.getElem?_eq_none_iff.mp q; rw [wipe_length] at this; omega
      | some x =>
        cases x with
        | none => rfl
        | some v => exact absurd hj (wipe_some q).2
    by_cases hl : j < σ.length
    · rw [e σ hl, e σ' (by rw [h.1]; exact hl)]
    · rw [List.getElem?_eq_none (by rw [wipe_length, h.1]; omega), List.getElem?_eq_none (by rw [wipe_length]; omega)]
  · rw [wipe_out hj, wipe_out hj]
    exact h.2 j fun q => hj (hv j q)
section
variable {w : Wd} {z : Sit}
theorem asSq_at {d : D} {v : V} {ds : List D} (g : Good w z) (r : Rep w z d v) (e : asSq z.S d = some ds) : ∃ a vs, v = .ref a ∧ (SqT w.K z.H a vs ∨ SqL w.K z.H a vs) ∧ RepL w z ds vs := by
  unfold asSq at e
  split at e
  · cases e
    rename_i h
    obtain ⟨a, vs, h1, h2, h3⟩ := asT_at r h
    exact ⟨a, vs, h1, .inl h2, h3⟩
  · obtain ⟨a, vs, h1, h2, h3⟩ := asL_at g r e
    exact ⟨a, vs, h1, .inr (.inl (.inl h2)), h3⟩
theorem bindPs_len {S : Store} : ∀ {ps : List Pat} {ds : List D} {env env' : Env8}, bindPs S ps ds env = some env' → ds.length = ps.length
  | [], [], _, _, _ => rfl
  | p :: ps, d :: ds, env, env', e => by
    rw [bindPs] at e
    split at e
    · simp [bindPs_len e]
    · cases e
  | [], _ :: _, _, _, e => by rw [bindPs] at e; cases e; all_goals (intros; contradiction)
  | _ :: _, [], _, _, e => by rw [bindPs] at e; cases e; all_goals (intros; contradiction)
mutual
theorem bindP_at (g : Good w z) : ∀ {p : Pat} {d : D} {v : V} {env env' : Env8} {σ : L2.St} {Q : L2.St → Hp → Prop} {is : List Nat}, Rep w z d v → REnv w z env σ → bindP z.S p d env = some env' → (∀ i ∈ p.slots, i ∈ is) → (∀ σ', REnv w z env' σ' → Off is σ σ' → Q σ' z.H) → tgP w.K p v σ z.H Q
  | .nm i, d, v, env, env', σ, Q, is, r, re, e, hi, q => by
    rw [bindP] at e
    cases e
    rw [tgP]
    refine q _ (re.set r) ⟨by simp, fun j hj => ?_⟩
    rw [List.getElem?_set_ne fun e : i = j => hj (by rw [← e]; exact hi i (by rw [Pat.slots]; simp))]
  | .tp ps, d, v, env, env', σ, Q, is, r, re, e, hi, q => by
    rw [bindP] at e
    split at e
    · rename_i h
      obtain ⟨a, vs, h1, h2, h3⟩ := asSq_at g r h
      obtain ⟨hl, ht⟩ := bindPs_at g (Q := Q) (is := is) h3 re e (by rw [Pat.slots] at hi; exact hi) q
      rw [tgP]
      rcases h2 with h2 | h2
      · exact .inl ⟨a, vs, h1, h2, hl, ht⟩
      · exact .inr ⟨a, vs, h1, h2, hl, ht⟩
    · cases e
theorem bindPs_at (g : Good w z) : ∀ {ps : List Pat} {ds : List D} {vs : List V} {env env' : Env8} {σ : L2.St} {Q : L2.St → Hp → Prop} {is : List Nat}, RepL w z ds vs → REnv w z env σ → bindPs z.S ps ds env = some env' → (∀ i ∈ Pat.slotss ps, i ∈ is) → (∀ σ', REnv w z env' σ' → Off is σ σ' → Q σ' z.H) → vs.length = ps.length ∧ tgPs w.K ps vs σ z.H Q
  | [], [], vs, env, env', σ, Q, is, r, re, e, hi, q => by
    rw [bindPs] at e
    cases e
    rw [RepL] at r
    subst r
    rw [tgPs]
    exact ⟨rfl, rfl, q σ re (Off.refl _ _)⟩
  | p :: ps, d :: ds, vs, env, env', σ, Q, is, r, re, e, hi, q => by
    rw [bindPs] at e
    split at e
    · rename_i env1 h
      rw [RepL] at r
      obtain ⟨v, us, rfl, r1, r2⟩ := r
      rw [Pat.slotss] at hi
      have hl : us.length = ps.length := r2.length.symm.trans (bindPs_len e)
      rw [tgPs]
      refine ⟨by simp [hl], v, us, rfl, ?_⟩
      refine bindP_at g (is := is) r1 re h (fun i hm => hi i (List.mem_append_left _ hm)) fun σ' re' off => ?_
      exact (bindPs_at g (is := is) r2 re' e (fun i hm => hi i (List.mem_append_right _ hm)) fun σ2 re2 off2 => q σ2 re2 (off.trans off2)).2
    · cases e
  | [], _ :: _, _, _, _, _, _, _, _, _, e, _, _ => by rw [bindPs] at e; cases e; all_goals (intros; contradiction)
  | _ :: _, [], _, _, _, _, _, _, _, _, e, _, _ => by rw [bindPs] at e; cases e; all_goals (intros; contradiction)
end
end
end Ol

namespace Ol
open PySem PySem.Spec PyProof.Rows L2
/-! ### targets -/
section
variable {X : Cx} {w : Wd} {E : XK} {pos : Pos}
abbrev PGM (X : Cx) (w : Wd) (tg : Expr) (p : Pat) : Prop := PG X tg (tgP w.K p)
abbrev PGMs (X : Cx) (w : Wd) (tg : List Expr) (p : List Pat) : Prop := PGs X tg (tgPs w.K p)
theorem pgm_nm {i : Nat} {x : Str} (hN : X.N.Nodup) (hi : X.N[i]? = some x) (hx : Loc X.env.scope x) (hf : X.fn x = true ∨ X.env.scope.names.lookup x = some .local := by first | exact .inl rfl | exact .inr rfl | assumption) : PGM X w (.Name x pos) (.nm i) := by
  show PG _ _ (tgP w.K (.nm i))
  rw [tgP]
  exact pg_name hN hi hx hf
theorem pgms_nil : PGMs X w [] [] := by
  show PGs _ _ (tgPs w.K [])
  rw [tgPs]
  exact pgs_nil
theorem pgms_cons {e : Expr} {es : List Expr} {p : Pat} {ps : List Pat} (h1 : PGM X w e p) (h2 : PGMs X w es ps) (hs : (assignEach (e :: es) X.env).map (·.2) = assign e X.env :: (assignEach es X.env).map (·.2) := by rfl) : PGMs X w (e :: es) (p :: ps) := by
  show PGs _ _ (tgPs w.K (p :: ps))
  rw [tgPs]
  exact pgs_cons h1 h2 hs
theorem pgm_tp {es : List Expr} {k : Nat} {ps : List Pat} (hK : X.K = w.K) (hc : X.calm = true) (h : PGMs X w es ps) (hn : (assignEach es X.env).length = ps.length := by rfl) (hst : (assignEach es X.env).findIdx? (·.1) = none := by rfl) : PGM X w (.Tuple es k pos) (.tp ps) := by
  show PG _ _ (tgP w.K (.tp ps))
  rw [tgP]
  have h1 := pg_tup (k := k) (pos := pos) hc h hn hst
  have h2 := pg_unl (k := k) (pos := pos) hc h hn hst
  rw [hK] at h1 h2
  refine ⟨fun pins s σ H v u Q I r hw => ?_⟩
  rcases hw with hw | hw
  · exact h1.run pins s σ H v u Q I r hw
  · exact h2.run pins s σ H v u Q I r hw
end
/-! ### statements -/
def sRet (fa : Env8 → M D) : Env8 → M Fl := fun env => (fa env).bnd fun d => M.ret (.rt d)
def sRetN : Env8 → M Fl := fun _ => M.ret (.rt .non)
def sDrop (fa : Env8 → M D) : Env8 → M Fl := fun env => (fa env).bnd fun _ => M.ret (.nx env)
def sNext : Env8 → M Fl := fun env => M.ret (.nx env)
def sBrk : Env8 → M Fl := fun env => M.ret (.bk env)
def sCnt : Env8 → M Fl := fun env => M.ret (.ct env)
def sSeq (s t : Env8 → M Fl) : Env8 → M Fl := fun env => (s env).bnd fun r => match r with
  | .nx e => t e
  | r => M.ret r
def bindM (p : Pat) (d : D) (env : Env8) : M Env8 := fun S => match bindP S p d env with
  | some e => .ok e S
  | none => .bad
def sAsg (p : Pat) (fa : Env8 → M D) : Env8 → M Fl := fun env => (fa env).bnd fun d => (bindM p d env).bnd fun e => M.ret (.nx e)
def loopF (p : Pat) (body : Env8 → M Fl) : List D → Env8 → M Fl
  | [], env => M.ret (.nx env)
  | d :: ds, env => (bindM p d env).bnd fun e => (body e).bnd fun r => match r with
    | .nx e => loopF p body ds e
    | .ct e => loopF p body ds e
    | .bk e => M.ret (.nx e)
    | .rt d => M.ret (.rt d)
def sFor (fi : Env8 → M (List D)) (p : Pat) (body : Env8 → M Fl) : Env8 → M Fl := fun env => (fi env).bnd fun ds => loopF p body ds env
def loopW (t : Env8 → M Bool) (body : Env8 → M Fl) : Nat → Env8 → M Fl
  | 0, _ => M.bad
  | n + 1, env => (t env).bnd fun b => if b = true then (body env).bnd fun r => match r with
    | .nx e => loopW t body n e
    | .ct e => loopW t body n e
    | .bk e => M.ret (.nx e)
    | .rt d => M.ret (.rt d)
    else M.ret (.nx env)
def sPar (i j : Nat) (fs : Env8 → M (List D)) : Env8 → M Fl := fun env => (fs env).bnd fun ds => match ds with
  | [a, b] => M.ret (.nx ((env.set i (some a)).set j (some b)))
  | _ => M.bad
def sPar3 (i j l : Nat) (fs : Env8 → M (List D)) : Env8 → M Fl := fun env => (fs env).bnd fun ds => match ds with
  | [a, b, c] => M.ret (.nx (((env.set i (some a)).set j (some b)).set l (some c)))
  | _ => M.bad
section
variable {X : Cx} {w : Wd} {E : XK} {e a b c : Expr} {fa fb fc : Env8 → M D} {pos : Pos} {st : Stmt} {sts : List Stmt} {s t : Env8 → M Fl} {p : Env8 → M Bool}
theorem pms_ret (A : PM X w E a fa) : PMS X w E (.Return (some a) pos) (sRet fa) := (ps_ret A).wk fun De σ H ⟨env, z, eH, G, re, o⟩ => ⟨env, z, eH, G, re, (Out.bnd o).imp fun d z1 x1 g1 o1 v rv => (Out.ret o1 g1 rfl) v rv⟩
theorem pms_retN : PMS X w E (.Return none pos) sRetN := ps_retN.wk fun De σ H ⟨env, z, eH, G, re, o⟩ => by
  subst eH
  exact (Out.ret o G rfl) .non rep_non
theorem pms_expr (A : PM X w E a fa) (hs : swapsWith a none pos.line X.env = pure false := by rfl) : PMS X w E (.Expr a pos) (sDrop fa) := (ps_expr A hs).wk fun De σ H ⟨env, z, eH, G, re, o⟩ => ⟨env, z, eH, G, re, (Out.bnd o).imp fun d z1 x1 g1 o1 v rv => (Out.ret o1 g1 rfl) σ (re.mono x1.vx)⟩
theorem pms_pass : PMS X w E (.Pass pos) sNext := ps_pass.wk fun De σ H ⟨env, z, eH, G, re, o⟩ => by
  subst eH
  exact (Out.ret o G rfl) σ re
theorem pms_break : PMS X w E (.Break pos) sBrk := ps_break.wk fun De σ H ⟨env, z, eH, G, re, o⟩ => by
  subst eH
  exact (Out.ret o G rfl) σ re
theorem pms_continue : PMS X w E (.Continue pos) sCnt := ps_continue.wk fun De σ H ⟨env, z, eH, G, re, o⟩ => by
  subst eH
  exact (Out.ret o G rfl) σ re
theorem pms_if {xs ys : List Stmt} (P : PMT X w E c p) (A : PMSs X w E xs s) (B : PMSs X w E ys t) : PMS X w E (.If c xs ys pos) (fIf p s t) := (ps_if P A B).wk fun De σ H ⟨env, z, eH, G, re, o⟩ => ⟨env, z, eH, G, re, (Out.bnd o).imp fun b z1 x1 g1 o1 => by
  cases b with
  | true => exact iteT ⟨env, z1, rfl, g1, re.mono x1.vx, o1⟩
  | false => exact iteF ⟨env, z1, rfl, g1, re.mono x1.vx, o1⟩⟩
theorem pmss_nil : PMSs X w E [] sNext := pss_nil.wk fun De σ H ⟨env, z, eH, G, re, o⟩ => by
  subst eH
  exact (Out.ret o G rfl) σ re
theorem pmss_cons (A : PMS X w E st s) (B : PMSs X w E sts t) : PMSs X w E (st :: sts) (sSeq s t) := (pss_cons A B).wk fun De σ H ⟨env, z, eH, G, re, o⟩ => ⟨env, z, eH, G, re, (Out.bnd o).imp fun r z1 x1 g1 o1 => by
  cases r with
  | nx e => exact fun σ' re' => ⟨e, z1, rfl, g1, re', o1⟩
  | rt d => exact (show FlP w De (.rt d) z1 from Out.ret (E := E) o1 g1 rfl)
  | bk e => exact (show FlP w De (.bk e) z1 from Out.ret (E := E) o1 g1 rfl)
  | ct e => exact (show FlP w De (.ct e) z1 from Out.ret (E := E) o1 g1 rfl)⟩
theorem pmss_one (A : PMS X w E st s) : PMSs X w E [st] s := pss_one A
theorem tg_at {z : Sit} {p : Pat} {d : D} {v : V} {env : Env8} {σ : L2.St} {R : L2.St → Hp → Prop} {P : Env8 → Sit → Prop} (g : Good w z) (r : Rep w z d v) (re : REnv w z env σ) (o : Out w z (bindM p d env z.S) P E) (h : ∀ e σ', REnv w z e σ' → P e z → Off p.slots σ σ' → R σ' z.H) : tgP w.K p v σ z.H R := by
  unfold bindM at o
  split at o
  · rename_i e he
    exact bindP_at g (is := p.slots) r re he (fun _ hm => hm) fun σ' re' off => h e σ' re' (o z rfl (Ex.refl _) g) off
  · exact o.elim
theorem pms_asg {tg : Expr} {p : Pat} (A : PM X w E a fa) (G : PGM X w tg p) (hs : swapsWithSole [tg] a pos.line X.env = pure false := by rfl) (hw : swappedStores [tg] a X.env = pure none := by rfl) (h1 : (assignEach [tg] X.env).map (·.2) = [assign tg X.env] := by rfl) : PMS X w E (.Assign [tg] a pos) (sAsg p fa) := (ps_asg A G hs hw h1).wk fun De σ H ⟨env, z, eH, G, re, o⟩ => ⟨env, z, eH, G, re, (Out.bnd o).imp fun d z1 x1 g1 o1 v rv =>
  tg_at g1 rv (re.mono x1.vx) (Out.bnd o1) fun e σ' re' q _ => (Out.ret q g1 rfl) σ' re'⟩
theorem pms_set {i : Nat} {x : Str} {pos' : Pos} (hN : X.N.Nodup) (hi : X.N[i]? = some x) (hx : Loc X.env.scope x) (A : PM X w E a fa) (hs : swapsWith a (some (.Name x pos')) pos.line X.env = pure false := by rfl) (hf : X.fn x = true ∨ X.env.scope.names.lookup x = some .local := by first | exact .inl rfl | exact .inr rfl | assumption) : PMS X w E (.Assign [.Name x pos'] a pos) (sAsg (.nm i) fa) := (ps_set hN hi hx A hs hf).wk fun De σ H ⟨env, z, eH, G, re, o⟩ => ⟨env, z, eH, G, re, (Out.bnd o).imp fun d z1 x1 g1 o1 v rv => by
  have := tg_at (R := De.nx) g1 rv (re.mono x1.vx) (Out.bnd o1) fun e σ' re' q _ => (Out.ret q g1 rfl) σ' re'
  rw [tgP] at this
  exact this⟩
theorem pms_par {i j : Nat} {x y : Str} {px py pt : Pos} {kt k2 pt2} {fs : Env8 → M (List D)} (hc : X.calm = true) (hN : X.N.Nodup) (hi : X.N[i]? = some x) (hj : X.N[j]? = some y) (hij : i ≠ j) (hx : X.env.scope.names.lookup x = some .local) (hy : X.env.scope.names.lookup y = some .local) (A : PMA X w E [a, b] fs)
    (hw : swappedStores [.Tuple [.Name x px, .Name y py] kt pt] (.Tuple [a, b] k2 pt2) X.env = pure (some [x, y])) (hs : swapsWithSole [.Tuple [.Name x px, .Name y py] kt pt] (.Tuple [a, b] k2 pt2) pos.line X.env = pure false := by rfl) :
    PMS X w E (.Assign [.Tuple [.Name x px, .Name y py] kt pt] (.Tuple [a, b] k2 pt2) pos) (sPar i j fs) := (ps_par hc hN hi hj hij hx hy A hw hs).wk fun De σ H ⟨env, z, eH, G, re, o⟩ => ⟨env, z, eH, G, re, (Out.bnd o).imp fun ds z1 x1 g1 o1 vs rv => by
  split at o1
  · rw [RepL] at rv
    obtain ⟨v, r, rfl, r1, rv⟩ := rv
    rw [RepL] at rv
    obtain ⟨u, r, rfl, r2, rv⟩ := rv
    rw [RepL] at rv
    subst rv
    exact ⟨v, u, rfl, (Out.ret o1 g1 rfl) _ (((re.mono x1.vx).set r1).set r2)⟩
  · exact o1.elim⟩
theorem pms_par3 {i j l : Nat} {x y q : Str} {px py pz pt : Pos} {kt k2 pt2} {fs : Env8 → M (List D)} (hc : X.calm = true) (hN : X.N.Nodup) (hi : X.N[i]? = some x) (hj : X.N[j]? = some y) (hl : X.N[l]? = some q) (hij : i ≠ j) (hil : i ≠ l) (hjl : j ≠ l) (hx : X.env.scope.names.lookup x = some .local) (hy : X.env.scope.names.lookup y = some .local) (hq : X.env.scope.names.lookup q = some .local) (A : PMA X w E [a, b, c] fs)
    (hw : swappedStores [.Tuple [.Name x px, .Name y py, .Name q pz] kt pt] (.Tuple [a, b, c] k2 pt2) X.env = pure (some [x, y, q])) (hs : swapsWithSole [.Tuple [.Name x px, .Name y py, .Name q pz] kt pt] (.Tuple [a, b, c] k2 pt2) pos.line X.env = pure false := by rfl) :
    PMS X w E (.Assign [.Tuple [.Name x px, .Name y py, .Name q pz] kt pt] (.Tuple [a, b, c] k2 pt2) pos) (sPar3 i j l fs) := (ps_par3 hc hN hi hj hl hij hil hjl hx hy hq A hw hs).wk fun De σ H ⟨env, z, eH, G, re, o⟩ => ⟨env, z, eH, G, re, (Out.bnd o).imp fun ds z1 x1 g1 o1 vs rv => by
  split at o1
  · rw [RepL] at rv
    obtain ⟨v, r, rfl, r1, rv⟩ := rv
    rw [RepL] at rv
    obtain ⟨u, r, rfl, r2, rv⟩ := rv
    rw [RepL] at rv
    obtain ⟨t, r, rfl, r3, rv⟩ := rv
    rw [RepL] at rv
    subst rv
    exact ⟨v, u, t, rfl, (Out.ret o1 g1 rfl) _ ((((re.mono x1.vx).set r1).set r2).set r3)⟩
  · exact o1.elim⟩
end
/-! ### what is walked -/
def Yl (w : Wd) (J : L2.It) (z : Sit) (ds : List D) : Prop := ∀ z1, Vx z z1 → Good w z1 → (∀ (i : Nat) (d : D), ds[i]? = some d → J.go i z1.H ∧ ∀ x H', J.yld i z1.H x H' → ∃ z2 : Sit, z2.H = H' ∧ z2.S = z1.S ∧ Ex z1 z2 ∧ Good w z2 ∧ Rep w z2 d x) ∧ J.stop ds.length z1.H
def tMI (w : Wd) (E : XK) (f : Env8 → M (List D)) : TI := fun σ H R => ∃ (env : Env8) (z : Sit), z.H = H ∧ Good w z ∧ REnv w z env σ ∧ Out w z (f env z.S) (fun ds z' => ∀ J, Yl w J z' ds → R J z'.H) E
abbrev PMI (X : Cx) (w : Wd) (E : XK) (tg iter : Expr) (f : Env8 → M (List D)) : Prop := PI X tg iter (tMI w E f)
theorem _root_.L2.PI.wk {X : Cx} {tg iter : Expr} {t u : TI} (p : PI X tg iter t) (h : ∀ σ H R, u σ H R → t σ H R) : PI X tg iter u := ⟨fun pins s σ H R I x => p.run pins s σ H R I (h σ H R x)⟩
/-- the items of a list or tuple -/
def dItems (d : D) : M (List D) := match d with
  | .lst ds => M.ret ds
  | .tup ds => M.ret ds
  | .str s => M.ret (s.cps.toList.map fun c => .str ⟨#[c]⟩)
  | _ => M.bad
section
variable {X : Cx} {w : Wd} {E : XK} {e a b c : Expr} {fa fb fc : Env8 → M D} {pos : Pos} {tg : Expr} {z : Sit} {ds : List D} {vs : List V} {p : Addr}
theorem yl_list (r : Rep w z (.lst ds) (.ref p)) : Yl w (Itl w.K p) z ds := fun z1 x g => by
  have r1 := r.mono x
  rw [Rep] at r1
  obtain ⟨a, vs, e, _, h, rl⟩ := r1
  cases e
  have q : SqL w.K z1.H p vs := .inl (.inl h)
  refine ⟨fun i d hd => ?_, vs, q, Nat.le_of_eq rl.length.symm⟩
  obtain ⟨v, h1, h2⟩ := rl.get hd
  exact ⟨⟨vs, v, q, h1⟩, fun y H' hy => ⟨z1, hy.1.symm, rfl, Ex.refl _, g, by have := hy.2 vs q; rw [h1] at this; cases this; exact h2⟩⟩
theorem yl_tup (r : Rep w z (.tup ds) (.ref p)) : Yl w (Itt w.K p) z ds := fun z1 x g => by
  obtain ⟨a, vs, e, q, rl⟩ := asT_at (r.mono x) rfl
  cases e
  refine ⟨fun i d hd => ?_, vs, q, Nat.le_of_eq rl.length.symm⟩
  obtain ⟨v, h1, h2⟩ := rl.get hd
  exact ⟨⟨vs, v, q, h1⟩, fun y H' hy => ⟨z1, hy.1.symm, rfl, Ex.refl _, g, by have := hy.2 vs q; rw [h1] at this; cases this; exact h2⟩⟩
theorem yl_str {s : Str} : Yl w (Its s) z (s.cps.toList.map fun c => .str ⟨#[c]⟩) := fun z1 x g => by
  refine ⟨fun i d hd => ?_, by show s.cps.size ≤ _; simp⟩
  rw [List.getElem?_map] at hd
  cases hc : s.cps.toList[i]? with
  | none => rw [hc] at hd; cases hd
  | some c =>
    rw [hc] at hd
    cases hd
    have hi : i < s.cps.size := by have := (List.getElem?_eq_some_iff.mp hc).1; simpa using this
    refine ⟨hi, fun y H' hy => ⟨z1, hy.1.symm, rfl, Ex.refl _, g, ?_⟩⟩
    obtain ⟨c', h1, h2⟩ := hy.2
    have e : c' = c := by
      have : s.cps.toList[i]? = some c' := by simpa using h1
      rw [hc] at this
      cases this
      rfl
    rw [h2, e]
    exact rep_str
theorem yl_rng {lo : Int} {n : Nat} : Yl w (Itr lo n) z ((List.range n).map fun (i : Nat) => .int (lo + (i : Int))) := fun z1 x g => by
  refine ⟨fun i d hd => ?_, by show n ≤ _; simp⟩
  rw [List.getElem?_map] at hd
  cases hc : (List.range n)[i]? with
  | none => rw [hc] at hd; cases hd
  | some c =>
    rw [hc] at hd
    cases hd
    obtain ⟨hi, e⟩ := List.getElem?_eq_some_iff.mp hc
    simp at hi e
    subst e
    exact ⟨hi, fun y H' hy => ⟨z1, hy.1.symm, rfl, Ex.refl _, g, by rw [hy.2]; exact rep_int⟩⟩
theorem pi_alt {X : Cx} {tg iter : Expr} {t u : TI} (p : PI X tg iter t) (q : PI X tg iter u) : PI X tg iter (fun σ H R => t σ H R ∨ u σ H R) := ⟨fun pins s σ H R I x => by
  rcases x with x | x
  · exact p.run pins s σ H R I x
  · exact q.run pins s σ H R I x⟩
end
/-! ### loops -/
section
variable {X : Cx} {w : Wd} {E : XK} {e a b c : Expr} {fa fb fc : Env8 → M D} {pos : Pos} {tg iter : Expr} {z : Sit} {sts : List Stmt} {s : Env8 → M Fl} {fi : Env8 → M (List D)} {p : Pat}
theorem pms_for (hp : PassesOwn (model X.prog X.w) X.A X.env X.xe) (hc : X.calm = true) (I : PMI X w E tg iter fi) (G : PGM X w tg p) (B : PMSs X w E sts s) (hs : ∀ x, foldedSetIterable iter X.env x = pure x := by intro _; rfl) : PMS X w E (.For tg iter sts [] pos) (sFor fi p s) := (ps_for hp hc I G B hs).wk fun De σ H ⟨env, z, eH, G, re, o⟩ => by
  refine ⟨env, z, eH, G, re, (Out.bnd o).imp fun ds z0 x0 g0 o0 J hJ => ?_⟩
  refine ⟨fun i m σ' H' => ∃ (env : Env8) (z : Sit), z.H = H' ∧ Good w z ∧ REnv w z env σ' ∧ Ex z0 z ∧ i ≤ ds.length ∧ m = ds.length - i ∧ Out w z (loopF p s (ds.drop i) env z.S) (FlP w De) E, ⟨ds.length, env, z0, rfl, g0, re.mono x0.vx, Ex.refl _, Nat.zero_le _, rfl, o0⟩, ?_⟩
  rintro i m σ' H' ⟨env, z, rfl, g, re, x, hi, rfl, o⟩
  obtain ⟨h1, h2⟩ := hJ z x.vx g
  by_cases hlt : i < ds.length
  · obtain ⟨go, yl⟩ := h1 i ds[i] (List.getElem?_eq_getElem hlt)
    rw [List.drop_eq_getElem_cons hlt] at o
    refine .inr ⟨go, fun σ' H' => ∃ (env : Env8) (z : Sit), z.H = H' ∧ Good w z ∧ REnv w z env σ' ∧ Ex z0 z ∧ Out w z (loopF p s (ds.drop (i + 1)) env z.S) (FlP w De) E, fun σ2 H2 ⟨env2, z2, q1, q2, q3, q4, q5⟩ => ⟨ds.length - (i + 1), by omega, env2, z2, q1, q2, q3, q4, hlt, rfl, q5⟩, fun v H2 hy => ?_⟩
    obtain ⟨z2, rfl, eS, x2, g2, r2⟩ := yl v H2 hy
    have o2 := Out.at x2 o
    rw [← eS] at o2
    refine tg_at g2 r2 (re.mono x2.vx) (Out.bnd o2) fun e σ3 re3 q3 _ => ⟨e, z2, rfl, g2, re3, (Out.bnd q3).imp fun r z4 x4 g4 o4 => ?_⟩
    have xx := (x.trans x2).trans x4
    cases r with
    | nx e => exact fun σ5 re5 => ⟨e, z4, rfl, g4, re5, xx, o4⟩
    | ct e => exact fun σ5 re5 => ⟨e, z4, rfl, g4, re5, xx, o4⟩
    | bk e => exact fun σ5 re5 => (show FlP w De (.nx e) z4 from Out.ret (E := E) o4 g4 rfl) σ5 re5
    | rt d => exact (show FlP w De (.rt d) z4 from Out.ret (E := E) o4 g4 rfl)
  · have e : i = ds.length := by omega
    subst e
    rw [List.drop_length] at o
    exact .inl ⟨h2, (show FlP w De (.nx env) z from Out.ret (E := E) o g rfl) σ' re⟩
theorem pms_while {t : Env8 → M Bool} (n : Nat) (hp : PassesOwn (model X.prog X.w) X.A X.env X.xe) (T : PMT X w E c t) (B : PMSs X w E sts s) : PMS X w E (.While c sts [] pos) (loopW t s n) := (ps_while hp T B).wk fun De σ H ⟨env, z, eH, G, re, o⟩ => by
  refine ⟨fun m σ' H' => ∃ (env : Env8) (z : Sit), z.H = H' ∧ Good w z ∧ REnv w z env σ' ∧ Out w z (loopW t s m env z.S) (FlP w De) E, ⟨n, env, z, eH, G, re, o⟩, ?_⟩
  rintro m σ' H' ⟨env, z, rfl, g, re, o⟩
  cases m with
  | zero => exact o.elim
  | succ m =>
    refine ⟨env, z, rfl, g, re, (Out.bnd o).imp fun b z1 x1 g1 o1 => ?_⟩
    cases b with
    | false => exact iteF ((show FlP w De (.nx env) z1 from Out.ret (E := E) o1 g1 rfl) σ' (re.mono x1.vx))
    | true =>
      refine iteT ⟨fun σ' H' => ∃ (env : Env8) (z : Sit), z.H = H' ∧ Good w z ∧ REnv w z env σ' ∧ Out w z (loopW t s m env z.S) (FlP w De) E, fun σ2 H2 q => ⟨m, Nat.lt_succ_self _, q⟩, env, z1, rfl, g1, re.mono x1.vx, (Out.bnd (show Out w z1 (((s env).bnd _) z1.S) (FlP w De) E from o1)).imp fun r z4 x4 g4 o4 => ?_⟩
      cases r with
      | nx e => exact fun σ5 re5 => ⟨e, z4, rfl, g4, re5, o4⟩
      | ct e => exact fun σ5 re5 => ⟨e, z4, rfl, g4, re5, o4⟩
      | bk e => exact fun σ5 re5 => (show FlP w De (.nx e) z4 from Out.ret (E := E) o4 g4 rfl) σ5 re5
      | rt d => exact (show FlP w De (.rt d) z4 from Out.ret (E := E) o4 g4 rfl)
/-! walked things -/
theorem pmi_seq (hK : X.K = w.K) (A : PM X w E iter fa) : PMI X w E tg iter (f1 dItems fa) := by
  have h1 := pi_list (tg := tg) A
  have h2 := pi_tup (tg := tg) A
  rw [hK] at h1 h2
  refine (pi_alt (pi_alt h1 h2) (pi_str (tg := tg) A)).wk fun σ H R ⟨env, z, eH, G, re, o⟩ => ?_
  have o1 := Out.bnd o
  have key : ∀ d S, fa env z.S = .ok d S → (∃ ds, d = .lst ds) ∨ (∃ ds, d = .tup ds) ∨ (∃ s, d = .str s) := fun d S h => by
    unfold f1 M.bnd at o
    rw [h] at o
    cases d with
    | lst ds => exact .inl ⟨ds, rfl⟩
    | tup ds => exact .inr (.inl ⟨ds, rfl⟩)
    | str s => exact .inr (.inr ⟨s, rfl⟩)
    | _ => exact o.elim
  cases h : fa env z.S with
  | bad => unfold f1 M.bnd at o; rw [h] at o; exact o.elim
  | er c fs S =>
    rw [h] at o1
    exact .inl (.inl ⟨env, z, eH, G, re, by rw [h]; exact o1⟩)
  | ok d S =>
    rw [h] at o1
    rcases key d S h with ⟨ds, rfl⟩ | ⟨ds, rfl⟩ | ⟨s, rfl⟩
    · refine .inl (.inl ⟨env, z, eH, G, re, ?_⟩)
      rw [h]
      refine fun z1 e1 x1 g1 v rv => ?_
      have o2 := Out.ret (show Out w z1 (M.ret ds z1.S) _ E from o1 z1 e1 x1 g1) g1 rfl
      have rv' := rv
      rw [Rep] at rv'
      obtain ⟨p, vs, rfl, _, hp, _⟩ := rv'
      exact ⟨p, rfl, ⟨vs, .inl (.inl hp)⟩, o2 _ (yl_list rv)⟩
    · refine .inl (.inr ⟨env, z, eH, G, re, ?_⟩)
      rw [h]
      refine fun z1 e1 x1 g1 v rv => ?_
      have o2 := Out.ret (show Out w z1 (M.ret ds z1.S) _ E from o1 z1 e1 x1 g1) g1 rfl
      obtain ⟨p, vs, rfl, hp, _⟩ := asT_at rv rfl
      exact ⟨p, rfl, ⟨vs, hp⟩, o2 _ (yl_tup rv)⟩
    · refine .inr ⟨env, z, eH, G, re, ?_⟩
      rw [h]
      refine fun z1 e1 x1 g1 v rv => ?_
      have o2 := Out.ret (show Out w z1 (M.ret (s.cps.toList.map fun c => D.str ⟨#[c]⟩) z1.S) _ E from o1 z1 e1 x1 g1) g1 rfl
      rw [Rep] at rv
      exact ⟨s, rv, o2 _ yl_str⟩
/-- range(n), range(a, b) -/
def dRange1 : List D → M (List D)
  | [.int n] => if -(2 ^ 62) ≤ n ∧ n < 2 ^ 62 then M.ret ((List.range n.toNat).map fun (i : Nat) => .int (0 + (i : Int))) else M.bad
  | _ => M.bad
def dRange2 : List D → M (List D)
  | [.int a, .int b] => if -(2 ^ 62) ≤ a ∧ a < 2 ^ 62 ∧ -(2 ^ 62) ≤ b ∧ b < 2 ^ 62 then M.ret ((List.range (b - a).toNat).map fun (i : Nat) => .int (a + (i : Int))) else M.bad
  | _ => M.bad
variable {fs : Env8 → M (List D)}
theorem pmi_range1 {q : Pos} (hg : Gl X "range") (hm : X.mg "range" = none) (A : PMA X w E [a] fs) (hs : starEach [a] X.env = [(false, eval a X.env)] := by rfl) : PMI X w E tg (.Call (.Name "range" q) [a] [] pos) (f1 dRange1 fs) := (pi_range1 hg hm A hs).wk fun σ H R ⟨env, z, eH, G, re, o⟩ => ⟨env, z, eH, G, re, (Out.bnd o).imp fun ds z1 x1 g1 o1 vs rv => by
  unfold dRange1 at o1
  split at o1
  · split at o1
    · rename_i h
      have := RepL.ints (ns := [_]) rv
      subst this
      exact ⟨_, rfl, h.1, h.2, (Out.ret o1 g1 rfl) _ yl_rng⟩
    · exact o1.elim
  · exact o1.elim⟩
theorem pmi_range2 {q : Pos} (hg : Gl X "range") (hm : X.mg "range" = none) (A : PMA X w E [a, b] fs) (hs : starEach [a, b] X.env = [(false, eval a X.env), (false, eval b X.env)] := by rfl) (hs2 : starEach [b] X.env = [(false, eval b X.env)] := by rfl) : PMI X w E tg (.Call (.Name "range" q) [a, b] [] pos) (f1 dRange2 fs) := (pi_range2 hg hm A hs hs2).wk fun σ H R ⟨env, z, eH, G, re, o⟩ => ⟨env, z, eH, G, re, (Out.bnd o).imp fun ds z1 x1 g1 o1 vs rv => by
  unfold dRange2 at o1
  split at o1
  · split at o1
    · rename_i h
      have := RepL.ints (ns := [_, _]) rv
      subst this
      exact ⟨_, _, rfl, h, (Out.ret o1 g1 rfl) _ yl_rng⟩
    · exact o1.elim
  · exact o1.elim⟩
end
end Ol

namespace Ol
open PySem PySem.Spec PyProof.Rows L2
/-! ### comprehensions -/
section
variable {w : Wd} {z : Sit} {p : Addr}
/-- a new list that is not seen -/
def Sit.hide (z : Sit) (p : Addr) (H : Hp) : Sit := ⟨z.mu, z.S, H, p :: z.hd⟩
theorem Vx.hide {H' : Hp} (hp : z.H p = none) (s : Same z.H H') : Vx z (z.hide p H') := ⟨fun _ _ h => h, fun b o n h _ => ⟨s b o h, fun l => by
  rcases l with l | l
  · exact n (.inl l)
  · rcases List.mem_cons.mp l with e | l
    · rw [e, hp] at h; cases h
    · exact n (.inr l)⟩⟩
theorem Good.hide {H' : Hp} (g : Good w z) (hp : z.H p = none) (s : Same z.H H') (hn : H' p ≠ none) : Good w (z.hide p H') := by
  refine ⟨g.len, g.nd, fun i a o h1 h2 => (g.at_ i a o h1 h2).mono (Vx.hide hp s) (same_eq s (g.there a (List.mem_of_getElem? h1))), fun a h => same_ne s (g.there a h), fun a h => ?_, fun a h q => ?_, g.tab.ext s⟩
  · rcases List.mem_cons.mp h with e | h
    · rw [e]; exact hn
    · exact same_ne s (g.hid a h)
  · rcases List.mem_cons.mp q with e | q
    · rw [e] at h; exact g.there p h hp
    · exact g.dis a h q
/-- what is not seen is written -/
theorem Vx.hid {o : HO} (h : p ∈ z.hd) : Vx z (z.on (upd z.H p o)) := ⟨fun _ _ h => h, fun b u n hb _ => ⟨by
  show upd z.H p o b = some u
  rw [upd_ne (fun e : b = p => n (.inr (by rw [e]; exact h)))]
  exact hb, n⟩⟩
theorem Good.hidw {o u : HO} (g : Good w z) (h : p ∈ z.hd) (hu : z.H p = some u) (pu : plainO u) : Good w (z.on (upd z.H p o)) := by
  refine ⟨g.len, g.nd, fun i a q h1 h2 => (g.at_ i a q h1 h2).mono (Vx.hid h) ?_, fun a h => upd_some (g.there a h), fun a h => upd_some (g.hid a h), g.dis, tabs_upd g.tab hu pu⟩
  show upd z.H p o a = z.H a
  rw [upd_ne (fun e : a = p => g.dis a (List.mem_of_getElem? h1) (by rw [e]; exact h))]
/-- seen again -/
theorem Vx.seen {hd : List Addr} (h : ∀ a ∈ hd, a ∈ z.hd) : Vx z ⟨z.mu, z.S, z.H, hd⟩ := ⟨fun _ _ h => h, fun b o n hb _ => ⟨hb, fun l => by
  rcases l with l | l
  · exact n (.inl l)
  · exact n (.inr (h b l))⟩⟩
theorem Good.seen {hd : List Addr} (g : Good w z) (h : ∀ a ∈ hd, a ∈ z.hd) : Good w ⟨z.mu, z.S, z.H, hd⟩ :=
  ⟨g.len, g.nd, fun i a q h1 h2 => (g.at_ i a q h1 h2).mono (Vx.seen h) rfl, g.there, fun a q => g.hid a (h a q), fun a q r => g.dis a q (h a r), g.tab⟩
end
def wipe8 (env : Env8) : List Nat → Env8
  | [] => env
  | v :: vs => (wipe8 env vs).set v none
theorem wipe8_len (env : Env8) : ∀ vs : List Nat, (wipe8 env vs).length = env.length
  | [] => rfl
  | v :: vs => by unfold wipe8; rw [List.length_set, wipe8_len env vs]
theorem REnv.wipe {w : Wd} {z : Sit} {env : Env8} {σ : L2.St} (h : REnv w z env σ) : ∀ vs : List Nat, REnv w z (wipe8 env vs) (L2.wipe σ vs)
  | [] => h
  | v :: vs => by
    have ih := h.wipe vs
    unfold wipe8 L2.wipe
    refine ⟨by simp [ih.1], fun j d hj => ?_⟩
    by_cases q : v = j
    · subst q
      have hl := (List.getElem?_eq_some_iff.mp hj).1
      rw [List.length_set] at hl
      rw [List.getElem?_set_self hl] at hj
      cases hj
    · rw [List.getElem?_set_ne q] at hj
      rw [List.getElem?_set_ne q]
      exact ih.2 j d hj
/-- within a comprehension nothing is raised -/
def noEr {α : Type} (m : M α) : M α := fun S => match m S with
  | .ok a S' => .ok a S'
  | _ => .bad
def loopC (p : Pat) (t : Env8 → M Bool) (fe : Env8 → M D) (env : Env8) : List D → M (List D)
  | [] => M.ret []
  | d :: ds => (bindM p d env).bnd fun e => (t e).bnd fun b => if b = true then (fe e).bnd fun y => (loopC p t fe env ds).bnd fun ys => M.ret (y :: ys) else loopC p t fe env ds
def fLc (fi : Env8 → M (List D)) (p : Pat) (t : Env8 → M Bool) (fe : Env8 → M D) : Env8 → M D := fun env => (fi env).bnd fun ds => if ds.length ≤ big then (noEr (loopC p t fe (wipe8 env p.slots) ds)).bnd fun ys => M.ret (.lst ys) else M.bad
abbrev E0 : XK := fun _ _ _ => False
def fYes : Env8 → M Bool := fun _ => M.ret true
abbrev PMTs (X : Cx) (w : Wd) (E : XK) (es : List Expr) (f : Env8 → M Bool) : Prop := PTs X es (tMB w E f)
theorem pmts_nil {X : Cx} {w : Wd} {E : XK} : PMTs X w E [] fYes := ⟨fun pins s σ H Q I ⟨env, z, eH, G, re, o⟩ => pts_nil.run pins s σ H Q I (by subst eH; exact Out.ret o G rfl)⟩
theorem pmts_one {X : Cx} {w : Wd} {E : XK} {c : Expr} {f : Env8 → M Bool} (h : PMT X w E c f) : PMTs X w E [c] f := pts_one h
theorem Out.ofNoEr {α : Type} {w : Wd} {z : Sit} {m : M α} {P : α → Sit → Prop} {E E' : XK} {S : Store} (h : Out w z (noEr m S) P E) : Out w z (m S) P E' := by
  unfold noEr at h
  cases e : m S with
  | ok a S1 => rw [e] at h; exact h
  | er c fs S1 => rw [e] at h; exact h.elim
  | bad => rw [e] at h; exact h
theorem bnd_ok {α β : Type} {m : M α} {k : α → M β} {S S' : Store} {b : β} (h : (m.bnd k) S = .ok b S') : ∃ a S1, m S = .ok a S1 ∧ k a S1 = .ok b S' := by
  unfold M.bnd at h
  cases e : m S with
  | ok a S1 => rw [e] at h; exact ⟨a, S1, rfl, h⟩
  | er c fs S1 => rw [e] at h; cases h
  | bad => rw [e] at h; cases h
theorem lc_at {w : Wd} {J : L2.It} {ds : List D} {p : Pat} {t : Env8 → M Bool} {fe : Env8 → M D} {env : Env8} {σ : L2.St} {z0 : Sit} {Q : VK} {ys : List D} {S' : Store} (hs : ds.length ≤ big) (hJ : Yl w J z0 ds) (g0 : Good w z0) (re : REnv w z0 env σ)
    (o : loopC p t fe (wipe8 env p.slots) ds z0.S = .ok ys S') (fin : ∀ zf : Sit, zf.S = S' → Ex z0 zf → Good w zf → ∀ v, Rep w zf (.lst ys) v → Q v zf.H) (A : Addr) (hA : z0.H A = none) :
    ∃ W : Nat → Nat → Hp → Prop, (∃ m, W 0 m (upd z0.H A (.lst []))) ∧ ∀ i m H, W i m H →
      (J.stop i H ∧ Q (.ref A) H) ∨ (J.go i H ∧ ∃ Nx : Hp → Prop, (∀ H', Nx H' → ∃ m', m' < m ∧ W (i + 1) m' H') ∧ ∀ x H', J.yld i H x H' → tgP w.K p x (L2.wipe σ p.slots) H' fun σ2 H2 => L2.wipe σ2 p.slots = L2.wipe σ p.slots ∧ tMB w E0 t σ2 H2 fun b H3 =>
        if b = true then tM w E0 fe σ2 H3 fun y H4 => ∃ acc, H4 A = some (.lst acc) ∧ acc.length < sizeLine ∧ Nx (upd H4 A (.lst (acc ++ [y]))) else Nx H3) := by
  have s0 := Same.new (o := .lst []) hA
  have nA : A ∉ z0.hd := fun q => g0.hid A q hA
  -- what holds ahead of a turn
  let St8 := fun (i : Nat) (H : Hp) => ∃ (z : Sit) (accD rest : List D) (accV : List V), z.H = H ∧ z.hd = A :: z0.hd ∧ Good w z ∧ Vx z0 z ∧ (∀ b o, ¬ z0.own b → z0.H b = some o → (∀ ps, o ≠ .tbl ps) → z.H b = some o ∧ ¬ z.own b) ∧ ¬ z.own A ∧
    z.H A = some (.lst accV) ∧ RepL w z accD accV ∧ accD.length ≤ i ∧ loopC p t fe (wipe8 env p.slots) (ds.drop i) z.S = .ok rest S' ∧ ys = accD ++ rest
  refine ⟨fun i m H => m = ds.length - i ∧ i ≤ ds.length ∧ St8 i H, ⟨ds.length, rfl, Nat.zero_le _, z0.hide A (upd z0.H A (.lst [])), [], ys, [], rfl, rfl, g0.hide hA s0 (by rw [upd_same]; simp), Vx.hide hA s0, fun b o n h _ => ⟨s0 b o h, n⟩, fun q => g0.there A q.mem hA, upd_same, RepL.nil, Nat.le_refl _, o, rfl⟩, ?_⟩
  rintro i m H ⟨rfl, hi, z, accD, rest, accV, rfl, ehd, g, vx, kp, no, hzA, ra, la, lo, ey⟩
  have mA : A ∈ z.hd := by rw [ehd]; exact List.mem_cons_self
  obtain ⟨h1, h2⟩ := hJ z vx g
  by_cases hlt : i < ds.length
  · obtain ⟨go, yl⟩ := h1 i ds[i] (List.getElem?_eq_getElem hlt)
    rw [List.drop_eq_getElem_cons hlt] at lo
    refine .inr ⟨go, St8 (i + 1), fun H' q => ⟨ds.length - (i + 1), by omega, rfl, hlt, q⟩, fun v H2 hy => ?_⟩
    obtain ⟨z2, rfl, eS, x2, g2, r2⟩ := yl v H2 hy
    rw [← eS] at lo
    obtain ⟨e1, S1, q1, lo⟩ := bnd_ok lo
    have q1' : bindP z2.S p ds[i] (wipe8 env p.slots) = some e1 ∧ z2.S = S1 := by
      unfold bindM at q1
      split at q1
      · rename_i e he
        cases q1
        exact ⟨he, rfl⟩
      · cases q1
    obtain ⟨hb, rfl⟩ := q1'
    obtain ⟨b, S1, q2, lo⟩ := bnd_ok lo
    have vx2 := vx.trans x2.vx
    refine bindP_at g2 (is := p.slots) r2 ((re.mono vx2).wipe _) hb (fun _ hm => hm) fun σ2 re2 off => ⟨?_, e1, z2, rfl, g2, re2, ?_⟩
    · have := off.wipe (vs := p.slots) fun _ hm => hm
      rw [this]
      apply List.ext_getElem?
      intro j
      by_cases hj : j ∈ p.slots
      · have ee : ∀ s : L2.St, j < s.length → (L2.wipe s p.slots)[j]? = some none := fun s hs => by
          cases q : (L2.wipe s p.slots)[j]? with
          | none => have := List.getElem?_eq_none_iff.mp q; rw [wipe_length] at this; omega
          | some x =>
            cases x with
            | none => rfl
            | some v => exact absurd hj (wipe_some q).2
        by_cases hl : j < σ.length
        · rw [ee _ hl, ee _ (by rw [wipe_length]; exact hl)]
        · rw [List.getElem?_eq_none (by rw [wipe_length, wipe_length]; omega), List.getElem?_eq_none (by rw [wipe_length]; omega)]
      · rw [wipe_out hj]
    · rw [q2]
      refine fun z3 e3 x3 g3 => ?_
      subst e3
      have e23 := x2.trans x3
      have kp3 : ∀ b o, ¬ z0.own b → z0.H b = some o → (∀ ps, o ≠ .tbl ps) → z3.H b = some o ∧ ¬ z3.own b := fun b o n h tt => let ⟨u1, u2⟩ := kp b o n h tt; e23.keep b o u2 u1 tt
      obtain ⟨hA3, no3⟩ := e23.keep A _ no hzA (fun _ e => by cases e)
      have vx3 := vx2.trans x3.vx
      cases b with
      | false => exact iteF ⟨z3, accD, rest, accV, rfl, by rw [e23.hd, ehd], g3, vx3, kp3, no3, hA3, ra.mono e23.vx, by omega, lo, ey⟩
      | true =>
        obtain ⟨y, S4, q4, lo⟩ := bnd_ok (show ((fe e1).bnd fun y => (loopC p t fe (wipe8 env p.slots) (ds.drop (i + 1))).bnd fun ys => M.ret (y :: ys)) z3.S = .ok rest S' from lo)
        obtain ⟨rest', S5, q5, lo⟩ := bnd_ok lo
        cases lo
        refine iteT ⟨e1, z3, rfl, g3, re2.mono x3.vx, ?_⟩
        rw [q4]
        refine fun z4 e4 x4 g4 v4 r4 => ?_
        subst e4
        have e24 := e23.trans x4
        obtain ⟨hA4, no4⟩ := e24.keep A _ no hzA (fun _ e => by cases e)
        have m4 : A ∈ z4.hd := by rw [e24.hd, ehd]; exact List.mem_cons_self
        have V4 : Vx z4 (z4.on (upd z4.H A (.lst (accV ++ [v4])))) := Vx.hid m4
        refine ⟨accV, hA4, Nat.lt_of_le_of_lt (by rw [← ra.length]; exact Nat.le_trans la (Nat.le_trans (Nat.le_of_lt hlt) hs)) (by decide), z4.on (upd z4.H A (.lst (accV ++ [v4]))), accD ++ [y], rest', accV ++ [v4], rfl, by show z4.hd = _; rw [e24.hd, ehd], g4.hidw m4 hA4 trivial, (vx3.trans x4.vx).trans V4, fun b o n h tt => ?_, no4, upd_same, ((ra.mono e24.vx).append (RepL.cons r4 RepL.nil)).mono V4, by simp; exact la, q5, by rw [ey]; simp⟩
        obtain ⟨u1, u2⟩ := kp b o n h tt
        obtain ⟨u3, u4⟩ := e24.keep b o u2 u1 tt
        refine ⟨?_, u4⟩
        show upd z4.H A _ b = some o
        rw [upd_ne (ne_of_none h hA)]
        exact u3
  · have e : i = ds.length := by omega
    subst e
    rw [List.drop_length] at lo
    cases lo
    refine .inl ⟨h2, ?_⟩
    have sub : ∀ a ∈ z0.hd, a ∈ z.hd := fun a ha => by rw [ehd]; exact List.mem_cons_of_mem _ ha
    refine fin ⟨z.mu, z.S, z.H, z0.hd⟩ rfl ⟨vx.pre, rfl, kp⟩ (g.seen sub) (.ref A) ?_
    rw [Rep]
    refine ⟨A, accV, rfl, fun l => ?_, hzA, ?_⟩
    · rcases l with l | l
      · exact no l
      · exact nA l
    · rw [ey, List.append_nil]
      exact ra.mono (Vx.seen sub)
section
variable {X : Cx} {w : Wd} {E : XK} {elt tg iter : Expr} {ifs : List Expr} {scope : Scope} {own : List (Str × Nat)} {pos : Pos} {p : Pat} {fi : Env8 → M (List D)} {t : Env8 → M Bool} {fe : Env8 → M D}
theorem lc_wk {σ : L2.St} {H : Hp} {Q : VK} (h : tM w E (fLc fi p t fe) σ H Q) : tLc (tMI w E fi) (tgP w.K p) (tMB w E0 t) (tM w E0 fe) p.slots σ H Q := by
  obtain ⟨env, z, eH, G, re, o⟩ := h
  refine ⟨env, z, eH, G, re, (Out.bnd o).imp fun ds z0 x0 g0 o0 J hJ A hA => ?_⟩
  split at o0
  · rename_i hs
    have o1 := Out.bnd o0
    unfold noEr at o1
    cases e : loopC p t fe (wipe8 env p.slots) ds z0.S with
    | ok ys S' =>
      rw [e] at o1
      exact lc_at (Q := Q) hs hJ g0 (re.mono x0.vx) e (fun zf e1 x1 g1 => Out.ret (o1 zf e1 x1 g1) g1 rfl) A hA
    | er c fs S1 => rw [e] at o1; exact o1.elim
    | bad => rw [e] at o1; exact o1.elim
  · exact o0.elim
theorem pm_lc (hc : X.calm = true) (hN : X.N.Nodup) (I : PMI X w E tg iter fi) (ok : BlkOk X.N X.env.scope scope own) (ho : own.map (·.2) = p.slots)
    (G : ∀ (s : Shared) (H : Hp) (C : Addr) (cl : List (Str × Addr)) (fp : List Addr), PGM (X.blk s H scope (compEnvC scope cl C X.env) fp) w tg p) (T : ∀ (s : Shared) (H : Hp) (C : Addr) (cl : List (Str × Addr)) (fp : List Addr), PMTs (X.blk s H scope (compEnvC scope cl C X.env) fp) w E0 ifs t)
    (A : ∀ (s : Shared) (H : Hp) (C : Addr) (cl : List (Str × Addr)) (fp : List Addr), PM (X.blk s H scope (compEnvC scope cl C X.env) fp) w E0 elt fe) (hs : ∀ x, foldedSetIterable iter X.env x = pure x := by intro _; rfl) :
    PM X w E (.ListComp elt [⟨tg, iter, ifs, 0⟩] scope pos) (fLc fi p t fe) := (pe_lc hc hN I ok G T A hs).wk fun σ H Q h => by rw [ho]; exact lc_wk h
theorem pms_setLc {i : Nat} {y : Str} {py spos : Pos} (hc : X.calm = true) (hN : X.N.Nodup) (hy : X.N[i]? = some y) (hyl : X.env.scope.names.lookup y = some .local) (hsw : swapsWith (.ListComp elt [⟨tg, iter, ifs, 0⟩] scope pos) (some (.Name y py)) spos.line X.env = pure true)
    (I : PMI X w E tg iter fi) (ok : BlkOk X.N X.env.scope scope own) (ho : own.map (·.2) = p.slots)
    (G : ∀ (s : Shared) (H : Hp) (C : Addr) (cl : List (Str × Addr)) (fp : List Addr), PGM (X.blk s H scope (compEnvC scope cl C X.env) fp) w tg p) (T : ∀ (s : Shared) (H : Hp) (C : Addr) (cl : List (Str × Addr)) (fp : List Addr), PMTs (X.blk s H scope (compEnvC scope cl C X.env) fp) w E0 ifs t)
    (A : ∀ (s : Shared) (H : Hp) (C : Addr) (cl : List (Str × Addr)) (fp : List Addr), PM (X.blk s H scope (compEnvC scope cl C X.env) fp) w E0 elt fe) (hs : ∀ x, foldedSetIterable iter X.env x = pure x := by intro _; rfl) :
    PMS X w E (.Assign [.Name y py] (.ListComp elt [⟨tg, iter, ifs, 0⟩] scope pos) spos) (sAsg (.nm i) (fLc fi p t fe)) := (ps_setLc hc hN hy hyl hsw I ok G T A hs).wk fun De σ H ⟨env, z, eH, G, re, o⟩ => by
  rw [ho]
  refine lc_wk ⟨env, z, eH, G, re, (Out.bnd o).imp fun d z1 x1 g1 o1 v rv => ?_⟩
  have := tg_at (R := De.nx) g1 rv (re.mono x1.vx) (Out.bnd o1) fun e σ' re' q _ => (Out.ret q g1 rfl) σ' re'
  rw [tgP] at this
  exact this
end
end Ol

namespace Ol
open PySem PySem.Spec PyProof.Rows L2
/-! ### what was made in a call goes with it -/
mutual
def D.lim (k : Nat) : D → Bool
  | .lst xs => D.limL k xs
  | .tup xs => D.limL k xs
  | .dct kvs => D.limK k kvs
  | .ins _ fs => D.limF k fs
  | .err _ fs => D.limF k fs
  | .loc i => decide (i < k)
  | _ => true
def D.limL (k : Nat) : List D → Bool
  | [] => true
  | d :: ds => d.lim k && D.limL k ds
def D.limF (k : Nat) : List (Str × D) → Bool
  | [] => true
  | (_, d) :: ds => d.lim k && D.limF k ds
def D.limK (k : Nat) : List (Key × D) → Bool
  | [] => true
  | (_, d) :: ds => d.lim k && D.limK k ds
end
def O.lim (k : Nat) : O → Bool
  | .off => true
  | .lst xs => D.limL k xs
  | .dct kvs => D.limK k kvs
  | .ins _ fs => D.limF k fs
def Sit.cut (z : Sit) (k : Nat) : Sit := ⟨z.mu.take k, z.S.take k, z.H, z.hd⟩
section
variable {w : Wd} {z : Sit} {k : Nat}
theorem take_some {α : Type} {l : List α} {i : Nat} {a : α} (h : (l.take k)[i]? = some a) : l[i]? = some a ∧ i < k := by
  have hi := (List.getElem?_eq_some_iff.mp h).1
  rw [List.length_take] at hi
  rw [List.getElem?_take_of_lt (by omega)] at h
  exact ⟨h, by omega⟩
theorem Sit.cut_own {a : Addr} (h : (z.cut k).own a) : z.own a := by
  obtain ⟨i, o, h1, h2, h3⟩ := h
  exact ⟨i, o, (take_some h1).1, (take_some h2).1, h3⟩
theorem Sit.cut_live {a : Addr} (h : ¬ z.live a) : ¬ (z.cut k).live a := fun q => by
  rcases q with q | q
  · exact h (.inl (Sit.cut_own q))
  · exact h (.inr q)
mutual
theorem Rep.cut : ∀ {d : D} {v : V}, Rep w z d v → d.lim k = true → Rep w (z.cut k) d v
  | .non, _, h, _ => by simpa [Rep] using h
  | .bl _, _, h, _ => by simpa [Rep] using h
  | .int _, _, h, _ => by simpa [Rep] using h
  | .str _, _, h, _ => by simpa [Rep] using h
  | .lst ds, v, h, l => by
    rw [Rep] at h ⊢
    rw [D.lim] at l
    obtain ⟨a, vs, e, n, h, r⟩ := h
    exact ⟨a, vs, e, Sit.cut_live n, h, RepL.cut r l⟩
  | .tup ds, v, h, l => by
    rw [Rep] at h ⊢
    rw [D.lim] at l
    obtain ⟨a, vs, e, h, r⟩ := h
    refine ⟨a, vs, e, ?_, RepL.cut r l⟩
    rcases h with ⟨n, h⟩ | h
    · exact .inl ⟨Sit.cut_live n, h⟩
    · exact .inr h
  | .dct kvs, v, h, l => by
    rw [Rep] at h ⊢
    rw [D.lim] at l
    obtain ⟨a, us, e, n, h, r⟩ := h
    exact ⟨a, us, e, Sit.cut_live n, h, RepK.cut r l⟩
  | .ins c fs, v, h, l => by
    rw [Rep] at h ⊢
    rw [D.lim] at l
    obtain ⟨a, dx, us, e, n, h, r⟩ := h
    exact ⟨a, dx, us, e, Sit.cut_live n, h, RepF.cut r l⟩
  | .err c fs, v, h, l => by
    rw [Rep] at h ⊢
    rw [D.lim] at l
    obtain ⟨a, dx, us, e, n, h, nd, hd, r⟩ := h
    exact ⟨a, dx, us, e, Sit.cut_live n, h, Sit.cut_live nd, hd, RepF.cut r l⟩
  | .cls _, _, h, _ => by simpa [Rep] using h
  | .ty _, _, h, _ => by simpa [Rep] using h
  | .loc i, v, h, l => by
    rw [Rep] at h ⊢
    rw [D.lim, decide_eq_true_eq] at l
    obtain ⟨a, e, h⟩ := h
    exact ⟨a, e, by show (z.mu.take k)[i]? = some a; rw [List.getElem?_take_of_lt l]; exact h⟩
  | .scr ns, v, h, _ => by
    rw [Rep] at h ⊢
    obtain ⟨a, e, h⟩ := h
    refine ⟨a, e, ?_⟩
    rcases h with ⟨n, h⟩ | h
    · exact .inl ⟨Sit.cut_live n, h⟩
    · exact .inr h
theorem RepL.cut : ∀ {ds : List D} {vs : List V}, RepL w z ds vs → D.limL k ds = true → RepL w (z.cut k) ds vs
  | [], _, h, _ => by simpa [RepL] using h
  | d :: ds, vs, h, l => by
    rw [RepL] at h ⊢
    rw [D.limL, Bool.and_eq_true] at l
    obtain ⟨v, r, e, h1, h2⟩ := h
    exact ⟨v, r, e, Rep.cut h1 l.1, RepL.cut h2 l.2⟩
theorem RepF.cut : ∀ {ds : List (Str × D)} {vs : List (Str × V)}, RepF w z ds vs → D.limF k ds = true → RepF w (z.cut k) ds vs
  | [], _, h, _ => by simpa [RepF] using h
  | (f, d) :: ds, vs, h, l => by
    rw [RepF] at h ⊢
    rw [D.limF, Bool.and_eq_true] at l
    obtain ⟨v, r, e, h1, h2⟩ := h
    exact ⟨v, r, e, Rep.cut h1 l.1, RepF.cut h2 l.2⟩
theorem RepK.cut : ∀ {ds : List (Key × D)} {vs : List (Key × V)}, RepK w z ds vs → D.limK k ds = true → RepK w (z.cut k) ds vs
  | [], _, h, _ => by simpa [RepK] using h
  | (f, d) :: ds, vs, h, l => by
    rw [RepK] at h ⊢
    rw [D.limK, Bool.and_eq_true] at l
    obtain ⟨v, r, e, h1, h2⟩ := h
    exact ⟨v, r, e, Rep.cut h1 l.1, RepK.cut h2 l.2⟩
end
theorem Good.cut (g : Good w z) (h : (z.S.take k).all (O.lim k) = true) : Good w (z.cut k) := by
  refine ⟨by show (z.mu.take k).length = (z.S.take k).length; simp [g.len], g.nd.sublist (List.take_sublist _ _), fun i a o h1 h2 => ?_, fun a h => g.there a (List.mem_of_mem_take h), g.hid, fun a h => g.dis a (List.mem_of_mem_take h), g.tab⟩
  have l := List.all_eq_true.mp h o (List.mem_of_getElem? h2)
  have q := g.at_ i a o (take_some h1).1 (take_some h2).1
  cases o with
  | off => trivial
  | lst ds => obtain ⟨vs, h1, h2⟩ := q; exact ⟨vs, h1, h2.cut l⟩
  | dct kvs => obtain ⟨vs, h1, h2⟩ := q; exact ⟨vs, h1, h2.cut l⟩
  | ins c fs => obtain ⟨dx, vs, h1, h2⟩ := q; exact ⟨dx, vs, h1, h2.cut l⟩
theorem Ex.cut {z0 : Sit} (x : Ex z0 z) (hl : z0.mu.length ≤ k) : Ex z0 (z.cut k) := ⟨fun i a h => by
  show (z.mu.take k)[i]? = some a
  rw [List.getElem?_take_of_lt (Nat.lt_of_lt_of_le (List.getElem?_eq_some_iff.mp h).1 hl)]
  exact x.pre i a h, x.hd, fun b o n h t => let ⟨h1, h2⟩ := x.keep b o n h t; ⟨h1, fun q => h2 (Sit.cut_own q)⟩⟩
end
def gc (m : M D) : M D := fun S => match m S with
  | .ok d S' => if d.lim S.length = true ∧ (S'.take S.length).all (O.lim S.length) = true then .ok d (S'.take S.length) else .bad
  | .er c fs S' => if D.limF S.length fs = true ∧ (S'.take S.length).all (O.lim S.length) = true then .er c fs (S'.take S.length) else .bad
  | .bad => .bad
theorem Out.gc {w : Wd} {z : Sit} {m : M D} {Q : VK} {E : XK} (g : Good w z) (h : Out w z (Ol.gc m z.S) (PQ w Q) E) : Out w z (m z.S) (PQ w Q) E := by
  unfold Ol.gc at h
  cases e : m z.S with
  | bad => rw [e] at h; exact h
  | ok d S' =>
    rw [e] at h
    dsimp only at h
    split at h
    · rename_i l
      intro z' eS x g' v r
      subst eS
      exact h (z'.cut z.S.length) rfl (x.cut (Nat.le_of_eq g.len)) (g'.cut l.2) v (r.cut l.1)
    · exact h.elim
  | er c fs S' =>
    rw [e] at h
    dsimp only at h
    split at h
    · rename_i l
      intro z' dx us eS x g' r hd nd
      subst eS
      exact h (z'.cut z.S.length) dx us rfl (x.cut (Nat.le_of_eq g.len)) (g'.cut l.2) (r.cut l.1) hd (Sit.cut_live nd)
    · exact h.elim
theorem pm_gc {X : Cx} {w : Wd} {E : XK} {e : Expr} {f : Env8 → M D} (p : PM X w E e f) : PM X w E e (fun env => gc (f env)) := p.wk fun σ H Q ⟨env, z, eH, G, re, o⟩ => ⟨env, z, eH, G, re, Out.gc G o⟩
/-! ### defs -/
def runF (n m : Nat) (body : Env8 → M Fl) : List D → M D := fun ds => if ds.length = n then (body (ds.map some ++ List.replicate (m - n) none)).bnd fun r => match r with
  | .nx _ => M.ret .non
  | .rt d => M.ret d
  | _ => M.bad
  else M.bad
def runG (n m : Nat) (body : Env8 → M Fl) : List D → M D := fun ds => gc (runF n m body ds)
section
variable {P : Program} {wo : World} {wd : Wd} {mg : Str → Option Value} {base : Heap} {x qual : Str} {st : Stmt} {f : Addr} {fd : FuncData} {N ps : List Str} {k : Nat} {body : Env8 → M Fl}
theorem renv_start {z : Sit} {ds : List D} {vs : List V} (r : RepL wd z ds vs) (hl : ds.length ≤ N.length) : REnv wd z (ds.map some ++ List.replicate (N.length - ds.length) none) (L2.start N vs) := by
  unfold L2.start
  rw [r.length]
  refine ⟨by simp [r.length], fun i d h => ?_⟩
  by_cases hi : i < ds.length
  · rw [List.getElem?_append_left (by simpa using hi), List.getElem?_map] at h
    cases e : ds[i]? with
    | none => rw [e] at h; cases h
    | some d' =>
      rw [e] at h
      cases h
      obtain ⟨v, h1, h2⟩ := r.get e
      exact ⟨v, by rw [List.getElem?_append_left (by rw [List.length_map, ← r.length]; exact hi), List.getElem?_map, h1]; rfl, h2⟩
  · rw [List.getElem?_append_right (by simpa using hi), List.getElem?_replicate] at h
    split at h <;> cases h
theorem body_at {X : Cx} {E : XK} {n : Nat} {vs : List V} {H : Hp} {Q : VK} {sts : List Stmt} (hn : n ≤ N.length) (hb : PMSs X wd E sts body) (h : spM wd n (runF n N.length body) vs H Q E) : ∃ t, PSs X sts t ∧ t { nx := fun _ H' => Q .non H', rt := Q } (L2.start N vs) H := by
  refine ⟨_, hb, ?_⟩
  obtain ⟨hl, ds, z, eH, G, r, o⟩ := h
  unfold runF at o
  split at o
  · rename_i hd
    have re := renv_start (N := N) r (by omega)
    rw [hd] at re
    refine ⟨_, z, eH, G, re, (Out.bnd o).imp fun r z1 x1 g1 o1 => ?_⟩
    cases r with
    | nx e => exact fun σ _ => (Out.ret (show Out wd z1 (M.ret D.non z1.S) (PQ wd Q) E from o1) g1 rfl) _ rep_non
    | rt d => exact fun v rv => (Out.ret (show Out wd z1 (M.ret d z1.S) (PQ wd Q) E from o1) g1 rfl) v rv
    | bk e => exact (show False from o1).elim
    | ct e => exact (show False from o1).elim
  · exact o.elim
theorem fn_ok (F : Fun wd.K x qual st f fd) (S : FnScope N ps (defScope st)) (hn : ps.length ≤ N.length) (hb : ∀ (cdv : Value) (A : Around) (outer : List Env) (s : Shared) (H : Hp) (E : XK), Room k (A.deeper (envOfC qual (defScope st) s.heap.objs.size f cdv)) →
    PMSs (cxOf (L2.CX P wo) P wo wd.K mg base N qual (defScope st) f cdv A outer s H E) wd E (defBody st) body) : FnOk P wo wd.K mg base (L2.CX P wo) (k + 1) f fd ps (spM wd ps.length (runF ps.length N.length body)) :=
  F.okX S (fun _ _ _ _ h => h.1) fun cdv A outer s H vs Q E hr h => body_at hn (hb cdv A outer s H E hr) h
theorem fn_okG (F : Fun wd.K x qual st f fd) (S : FnScope N ps (defScope st)) (hn : ps.length ≤ N.length) (hb : ∀ (cdv : Value) (A : Around) (outer : List Env) (s : Shared) (H : Hp) (E : XK), (A.deeper (envOfC qual (defScope st) s.heap.objs.size f cdv)).guards = some [] → Room k (A.deeper (envOfC qual (defScope st) s.heap.objs.size f cdv)) →
    PMSs (cxOf (L2.CX P wo) P wo wd.K mg base N qual (defScope st) f cdv A outer s H E) wd E (defBody st) body) : FnG P wo wd.K mg base (L2.CX P wo) (k + 1) f fd ps (spM wd ps.length (runF ps.length N.length body)) :=
  Fun.okG F S (fun _ _ _ _ h => h.1) fun cdv A outer s H vs Q E hg hr h => body_at hn (hb cdv A outer s H E hg hr) h
theorem spM_gc {n : Nat} {F : List D → M D} {vs : List V} {H : Hp} {Q : VK} {E : XK} (h : spM wd n (fun ds => gc (F ds)) vs H Q E) : spM wd n F vs H Q E := by
  obtain ⟨hl, ds, z, eH, G, r, o⟩ := h
  exact ⟨hl, ds, z, eH, G, r, Out.gc G o⟩
theorem FnOk.gc {F : List D → M D} {CX : CXT} {n : Nat} (h : FnOk P wo wd.K mg base CX k f fd ps (spM wd n F)) : FnOk P wo wd.K mg base CX k f fd ps (spM wd n fun ds => gc (F ds)) := h.imp fun _ _ _ _ q => spM_gc q
theorem FnG.gc {F : List D → M D} {CX : CXT} {n : Nat} (h : FnG P wo wd.K mg base CX k f fd ps (spM wd n F)) : FnG P wo wd.K mg base CX k f fd ps (spM wd n fun ds => gc (F ds)) :=
  ⟨fun vs H Q E q => h.len vs H Q E (spM_gc q), fun A outer s H args us vs Q E hg hr he hb hv hs => h.run A outer s H args us vs Q E hg hr he hb hv (spM_gc hs)⟩
end
/-- a function that takes n arguments -/
def Ar (n : Nat) (G : List D → M D) : Prop := ∀ ds S, ds.length ≠ n → G ds S = .bad
theorem ar_runF {n m : Nat} {body : Env8 → M Fl} : Ar n (runF n m body) := fun ds S h => by unfold runF; rw [if_neg h]; rfl
theorem ar_gc {n : Nat} {G : List D → M D} (h : Ar n G) : Ar n (fun ds => gc (G ds)) := fun ds S q => by show gc (G ds) S = .bad; unfold gc; rw [h ds S q]
theorem ar_runG {n m : Nat} {body : Env8 → M Fl} : Ar n (runG n m body) := ar_gc ar_runF
theorem sp_of {w : Wd} {z : Sit} {n : Nat} {G : List D → M D} {as : List D} {xs : List V} {Q : VK} {E : XK} (ar : Ar n G) (g : Good w z) (r : RepL w z as xs) (o : Out w z (G as z.S) (PQ w Q) E) : spM w n G xs z.H Q E := by
  refine ⟨?_, as, z, rfl, g, r, o⟩
  by_cases h : as.length = n
  · rw [← r.length]; exact h
  · rw [ar as z.S h] at o; exact o.elim
/-! ### calls -/
theorem pass0E {X : Cx} : Passes (L2.CX X.prog X.w) X E0 := fun _ _ _ _ _ _ _ ⟨_, _, _, _, _, _, _, _, _, _, _, _, h⟩ => h.elim
section
variable {X : Cx} {w : Wd} {E : XK} {k n : Nat} {f : Addr} {fd : FuncData} {ps : List Str} {G : List D → M D} {x : Str} {p pos : Pos} {e : Expr} {es : List Expr} {fs : Env8 → M (List D)}
theorem pm_call (F : FnOk X.prog X.w X.K X.mg X.base (L2.CX X.prog X.w) k f fd ps (spM w n G)) (ar : Ar n G) (hr : Room k X.A) (hg : Gl X x) (hm : X.mg x = some (.ref f)) (hk : PySem.W.keepIn X.K (.ref f) = true) (hb : L2.Binds X.K fd ps []) (hx : Passes (L2.CX X.prog X.w) X E) (A : PMA X w E (e :: es) fs)
    (hdb : (x == ("__debug__" : Str)) = false := by decide) (he : starEach (e :: es) X.env = (false, eval e X.env) :: starEach es X.env := by rfl) (hpl : (backTo pos (starEach es X.env)).any (·.1) = false := by rfl) : PM X w E (.Call (.Name x p) (e :: es) [] pos) (f1 G fs) :=
  (pe_call F hr hg hm hk hb .nil hx A hdb he hpl).wk fun σ H Q ⟨env, z, eH, G0, re, o⟩ => ⟨env, z, eH, G0, re, (Out.bnd o).imp fun as z1 x1 g1 o1 xs rx => by
    simp only [List.append_nil]
    exact sp_of ar g1 rx o1⟩
theorem pm_call0 (F : FnOk X.prog X.w X.K X.mg X.base (L2.CX X.prog X.w) k f fd ps (spM w n G)) (ar : Ar n G) (hr : Room k X.A) (hg : Gl X x) (hm : X.mg x = some (.ref f)) (hk : PySem.W.keepIn X.K (.ref f) = true) (hb : L2.Binds X.K fd ps []) (hx : Passes (L2.CX X.prog X.w) X E)
    (hdb : (x == ("__debug__" : Str)) = false := by decide) : PM X w E (.Call (.Name x p) [] [] pos) (fun _ => G []) :=
  (pe_call0 F hr hg hm hk hb .nil hx hdb).wk fun σ H Q ⟨env, z, eH, G0, re, o⟩ => by
    subst eH
    exact sp_of ar G0 RepL.nil o
theorem pm_callG (F : FnG X.prog X.w X.K X.mg X.base (L2.CX X.prog X.w) k f fd ps (spM w n G)) (ar : Ar n G) (hgd : X.A.guards = some []) (hr : Room k X.A) (hg : Gl X x) (hm : X.mg x = some (.ref f)) (hk : PySem.W.keepIn X.K (.ref f) = true) (hb : L2.Binds X.K fd ps []) (hx : Passes (L2.CX X.prog X.w) X E) (A : PMA X w E (e :: es) fs)
    (hdb : (x == ("__debug__" : Str)) = false := by decide) (he : starEach (e :: es) X.env = (false, eval e X.env) :: starEach es X.env := by rfl) (hpl : (backTo pos (starEach es X.env)).any (·.1) = false := by rfl) : PM X w E (.Call (.Name x p) (e :: es) [] pos) (f1 G fs) :=
  (pe_callG F hgd hr hg hm hk hb hx A hdb he hpl).wk fun σ H Q ⟨env, z, eH, G0, re, o⟩ => ⟨env, z, eH, G0, re, (Out.bnd o).imp fun as z1 x1 g1 o1 xs rx => by
    simp only [List.append_nil]
    exact sp_of ar g1 rx o1⟩
theorem pm_call0G (F : FnG X.prog X.w X.K X.mg X.base (L2.CX X.prog X.w) k f fd ps (spM w n G)) (ar : Ar n G) (hgd : X.A.guards = some []) (hr : Room k X.A) (hg : Gl X x) (hm : X.mg x = some (.ref f)) (hk : PySem.W.keepIn X.K (.ref f) = true) (hb : L2.Binds X.K fd ps []) (hx : Passes (L2.CX X.prog X.w) X E)
    (hdb : (x == ("__debug__" : Str)) = false := by decide) : PM X w E (.Call (.Name x p) [] [] pos) (fun _ => G []) :=
  (pe_call0G F hgd hr hg hm hk hb hx hdb).wk fun σ H Q ⟨env, z, eH, G0, re, o⟩ => by
    subst eH
    exact sp_of ar G0 RepL.nil o
/-! keywords -/
abbrev PMK (X : Cx) (w : Wd) (E : XK) (kws : List Keyword) (f : Env8 → M (List D)) : Prop := PK X kws (tMA w E f)
theorem _root_.L2.PK.wk {X : Cx} {kws : List Keyword} {t u : TA} (p : PK X kws t) (h : ∀ σ H Q, u σ H Q → t σ H Q) : PK X kws u := ⟨fun pos pins s σ H Q I x => p.run pos pins s σ H Q I (h σ H Q x)⟩
theorem pmk_nil : PMK X w E [] fNil := pk_nil.wk fun σ H Q ⟨env, z, eH, G, re, o⟩ => by
  subst eH
  exact (Out.ret o G rfl) [] RepL.nil
theorem pmk_cons {nm : Option Str} {kpos : Pos} {kws : List Keyword} {fa : Env8 → M D} {fr : Env8 → M (List D)} (p : PM X w E e fa) (q : PMK X w E kws fr) : PMK X w E (⟨nm, e, kpos⟩ :: kws) (fCons fa fr) := (pk_cons p q).wk fun σ H Q ⟨env, z, eH, G, re, o⟩ =>
  ⟨env, z, eH, G, re, (Out.bnd o).imp fun a z1 x1 g1 o1 x rx => ⟨env, z1, rfl, g1, re.mono x1.vx, (Out.bnd o1).imp fun as z2 x2 g2 o2 xs rxs => (Out.ret o2 g2 rfl) (x :: xs) (RepL.cons (rx.mono x2.vx) rxs)⟩⟩
/-! ### objects -/
/-- C(..) by the function of its __init__; the object may be written no more -/
def mkIns (c : Nat) (G : List D → M D) (ds : List D) : M D := gc fun S => match G (.loc S.length :: ds) (S ++ [.ins c []]) with
  | .ok .non S' => match S'[S.length]? with
    | some (.ins c' fs) => .ok (.ins c' fs) (S'.set S.length .off)
    | _ => .bad
  | .er c' fs S' => .er c' fs S'
  | _ => .bad
/-- .. that may be written -/
def mkLoc (c : Nat) (G : List D → M D) (ds : List D) : M D := fun S => match G (.loc S.length :: ds) (S ++ [.ins c []]) with
  | .ok .non S' => .ok (.loc S.length) S'
  | .er c' fs S' => .er c' fs S'
  | _ => .bad
section
variable {c : Nat} {z : Sit} {ds : List D} {vs : List V} {Q : VK}
def newIns (z : Sit) (w : Wd) (c : Nat) (x dx : Addr) : Sit := z.add x (.ins c []) (upd (upd z.H dx (.own x)) x (.ins (w.cm c) dx []))
theorem newIns_ok (g : Good w z) {x dx : Addr} (hx : z.H x = none) (hd : z.H dx = none) (ne : dx ≠ x) : Ex z (newIns z w c x dx) ∧ Good w (newIns z w c x dx) ∧ Rep w (newIns z w c x dx) (.loc z.S.length) (.ref x) := by
  have s : Same z.H (upd (upd z.H dx (.own x)) x (.ins (w.cm c) dx [])) := fun b o e => by rw [upd_ne (ne_of_none e hx), upd_ne (ne_of_none e hd)]; exact e
  refine ⟨Ex.add g hx s, g.add hx s ⟨dx, [], upd_same, by rw [RepF]⟩ (by rw [upd_same]; simp), ?_⟩
  rw [Rep]
  refine ⟨x, rfl, ?_⟩
  show (z.mu ++ [x])[z.S.length]? = some x
  rw [← g.len, List.getElem?_append_right (Nat.le_refl _), Nat.sub_self]
  rfl
theorem mkLoc_at (ar : Ar n G) (g : Good w z) (r : RepL w z ds vs) (o : Out w z (mkLoc c G ds z.S) (PQ w Q) E) : ∀ x dx, z.H x = none → z.H dx = none → dx ≠ x →
    spM w n G (.ref x :: vs) (upd (upd z.H dx (.own x)) x (.ins (w.cm c) dx [])) (fun v H2 => v = .non ∧ Q (.ref x) H2) E := fun x dx hx hd ne => by
  obtain ⟨x1, g1, r1⟩ := newIns_ok (c := c) g hx hd ne
  refine sp_of (z := newIns z w c x dx) ar g1 (RepL.cons r1 (r.mono x1.vx)) ?_
  unfold mkLoc at o
  show Out w _ (G (.loc z.S.length :: ds) (z.S ++ [.ins c []])) _ _
  cases e : G (.loc z.S.length :: ds) (z.S ++ [.ins c []]) with
  | bad => rw [e] at o; exact o
  | er c' fs S' => rw [e] at o; exact Out.at (r := (Res.er c' fs S' : Res D)) x1 o
  | ok d S' =>
    rw [e] at o
    cases d with
    | non =>
      intro z' eS x' g' v rv
      rw [Rep] at rv
      refine ⟨rv, o z' eS (x1.trans x') g' _ (r1.mono x'.vx)⟩
    | _ => exact (show False from o).elim
theorem mkIns_at (ar : Ar n G) (g : Good w z) (r : RepL w z ds vs) (o : Out w z (mkIns c G ds z.S) (PQ w Q) E) : ∀ x dx, z.H x = none → z.H dx = none → dx ≠ x →
    spM w n G (.ref x :: vs) (upd (upd z.H dx (.own x)) x (.ins (w.cm c) dx [])) (fun v H2 => v = .non ∧ Q (.ref x) H2) E := fun x dx hx hd ne => by
  obtain ⟨x1, g1, r1⟩ := newIns_ok (c := c) g hx hd ne
  refine sp_of (z := newIns z w c x dx) ar g1 (RepL.cons r1 (r.mono x1.vx)) ?_
  have o := Out.gc g o
  show Out w _ (G (.loc z.S.length :: ds) (z.S ++ [.ins c []])) _ _
  cases e : G (.loc z.S.length :: ds) (z.S ++ [.ins c []]) with
  | bad => rw [e] at o; exact o
  | er c' fs S' => rw [e] at o; exact Out.at (r := (Res.er c' fs S' : Res D)) x1 o
  | ok d S' =>
    rw [e] at o
    cases d with
    | non =>
      intro z' eS x' g' v rv
      rw [Rep] at rv
      refine ⟨rv, ?_⟩
      dsimp only at o
      have r2 := r1.mono x'.vx
      rw [Rep] at r2
      obtain ⟨a, ea, hm⟩ := r2
      cases ea
      split at o
      · rename_i c' fs hS
        rw [← eS] at hS
        obtain ⟨dx', us, hH, rf⟩ := g'.at_ _ _ _ hm hS
        refine o (z'.wr z.S.length .off z'.H) (by rw [← eS]; rfl) ((x1.trans x').trans Ex.frz) g'.frz _ ?_
        rw [Rep]
        refine ⟨x, dx', us, rfl, fun l => ?_, hH, rf.mono Ex.frz.vx⟩
        rcases l with l | l
        · exact not_own_frz g' hm l
        · exact g'.dis x (List.mem_of_getElem? hm) l
      · exact o.elim
    | _ => exact (show False from o).elim
end
theorem pm_make {c : Nat} (M : Mk X.K (w.cm c) f) (F : FnOk X.prog X.w X.K X.mg X.base (L2.CX X.prog X.w) k f fd ps (spM w n G)) (ar : Ar n G) (hr : Room (k + 1) X.A) (hg : Gl X x) (hm : X.mg x = some (.ref (w.cm c))) (hb : L2.Binds X.K fd ps []) (hx : Passes (L2.CX X.prog X.w) X E) (A : PMA X w E (e :: es) fs)
    (hdb : (x == ("__debug__" : Str)) = false := by decide) (he : starEach (e :: es) X.env = (false, eval e X.env) :: starEach es X.env := by rfl) (hpl : (backTo pos (starEach es X.env)).any (·.1) = false := by rfl) : PM X w E (.Call (.Name x p) (e :: es) [] pos) (f1 (mkIns c G) fs) :=
  (pe_make M F hr hg hm hb .nil hx A hdb he hpl).wk fun σ H Q ⟨env, z, eH, G0, re, o⟩ => ⟨env, z, eH, G0, re, (Out.bnd o).imp fun as z1 x1 g1 o1 xs rx => by
    simp only [List.append_nil]
    exact mkIns_at ar g1 rx o1⟩
theorem pm_makeL {c : Nat} (M : Mk X.K (w.cm c) f) (F : FnOk X.prog X.w X.K X.mg X.base (L2.CX X.prog X.w) k f fd ps (spM w n G)) (ar : Ar n G) (hr : Room (k + 1) X.A) (hg : Gl X x) (hm : X.mg x = some (.ref (w.cm c))) (hb : L2.Binds X.K fd ps []) (hx : Passes (L2.CX X.prog X.w) X E) (A : PMA X w E (e :: es) fs)
    (hdb : (x == ("__debug__" : Str)) = false := by decide) (he : starEach (e :: es) X.env = (false, eval e X.env) :: starEach es X.env := by rfl) (hpl : (backTo pos (starEach es X.env)).any (·.1) = false := by rfl) : PM X w E (.Call (.Name x p) (e :: es) [] pos) (f1 (mkLoc c G) fs) :=
  (pe_make M F hr hg hm hb .nil hx A hdb he hpl).wk fun σ H Q ⟨env, z, eH, G0, re, o⟩ => ⟨env, z, eH, G0, re, (Out.bnd o).imp fun as z1 x1 g1 o1 xs rx => by
    simp only [List.append_nil]
    exact mkLoc_at ar g1 rx o1⟩
/-! C(k = v, ..) -/
theorem RepL.pick {z : Sit} {zs : List D} {vs : List V} (r : RepL w z zs vs) : ∀ is : List Nat, RepL w z (is.filterMap fun i => zs[i]?) (is.filterMap fun i => vs[i]?)
  | [] => RepL.nil
  | i :: is => by
    rw [List.filterMap_cons, List.filterMap_cons]
    cases h : zs[i]? with
    | none =>
      have : vs[i]? = none := by
        have h2 := List.getElem?_eq_none_iff.mp h
        exact List.getElem?_eq_none_iff.mpr (by rw [← r.length]; exact h2)
      rw [this]
      exact RepL.pick r is
    | some d =>
      obtain ⟨v, e, q⟩ := r.get h
      rw [e]
      exact RepL.cons q (RepL.pick r is)
/-- arguments by position, then by keywords, in the order of the parameters -/
def fKw (n m : Nat) (is : List Nat) (fs fk : Env8 → M (List D)) : Env8 → M (List D) := fun env => (fs env).bnd fun ds => (fk env).bnd fun es => if ds.length = n ∧ es.length = m then M.ret (perm is ds es) else M.bad
theorem pm_makeK {c m q : Nat} {is : List Nat} {ks : List Str} {kws : List Keyword} {fk : Env8 → M (List D)} (M : Mk X.K (w.cm c) f) (F : FnOk X.prog X.w X.K X.mg X.base (L2.CX X.prog X.w) k f fd ps (spM w n G)) (ar : Ar n G) (hr : Room (k + 1) X.A) (hg : Gl X x) (hm : X.mg x = some (.ref (w.cm c))) (hb : KBn X.K fd ps (q + 1) ks (perm is) (perm is)) (hx : Passes (L2.CX X.prog X.w) X E) (A : PMA X w E (e :: es) fs) (B : PMK X w E kws fk)
    (hall : (backToKw pos (keywordEach kws X.env)).all (·.1.isSome) = true := by rfl) (hks : (backToKw pos (keywordEach kws X.env)).filterMap (·.1) = ks := by rfl) (hdb : (x == ("__debug__" : Str)) = false := by decide) (he : starEach (e :: es) X.env = (false, eval e X.env) :: starEach es X.env := by rfl)
    (hpl : ((backTo pos (starEach (e :: es) X.env)).any (·.1) || (backToKw pos (keywordEach kws X.env)).any (·.1.isNone)) = false := by rfl) (hmm : m = ks.length := by rfl) : PM X w E (.Call (.Name x p) (e :: es) kws pos) (f1 (mkIns c G) (fKw q m is fs fk)) := by
  subst hmm
  exact (pe_makeK M F hr hg hm hb hx A B hall hks hdb he hpl).wk fun σ H Q ⟨env, z, eH, G0, re, o⟩ => ⟨env, z, eH, G0, re, (Out.bnd (Out.bnd o)).imp fun as z1 x1 g1 o1 xs rx => ⟨env, z1, rfl, g1, re.mono x1.vx, (Out.bnd o1).imp fun bs z2 x2 g2 o2 ys ry => by
    split at o2
    · rename_i h
      have o3 := Out.ret o2 g2 rfl
      have rx := rx.mono x2.vx
      refine ⟨by rw [← rx.length]; exact h.1, by rw [← ry.length]; exact h.2, fun x dx hx hd ne => ?_⟩
      exact mkIns_at ar g2 (rx.append (RepL.pick ry is)) o3 x dx hx hd ne
    · exact o2.elim⟩⟩
theorem pm_makeK0 {c m : Nat} {is : List Nat} {ks : List Str} {kws : List Keyword} {fk : Env8 → M (List D)} (M : Mk X.K (w.cm c) f) (F : FnOk X.prog X.w X.K X.mg X.base (L2.CX X.prog X.w) k f fd ps (spM w n G)) (ar : Ar n G) (hr : Room (k + 1) X.A) (hg : Gl X x) (hm : X.mg x = some (.ref (w.cm c))) (hb : KBn X.K fd ps 1 ks (perm is) (perm is)) (hx : Passes (L2.CX X.prog X.w) X E) (B : PMK X w E kws fk)
    (hall : (backToKw pos (keywordEach kws X.env)).all (·.1.isSome) = true := by rfl) (hks : (backToKw pos (keywordEach kws X.env)).filterMap (·.1) = ks := by rfl) (hdb : (x == ("__debug__" : Str)) = false := by decide) (hpl : ((backTo pos (starEach [] X.env)).any (·.1) || (backToKw pos (keywordEach kws X.env)).any (·.1.isNone)) = false := by rfl) (hmm : m = ks.length := by rfl) : PM X w E (.Call (.Name x p) [] kws pos) (f1 (mkIns c G) (fKw 0 m is fNil fk)) := by
  subst hmm
  exact (pe_makeK0 M F hr hg hm hb hx B hall hks hdb hpl).wk fun σ H Q ⟨env, z, eH, G0, re, o⟩ => by
    have o1 := Out.bnd (Out.bnd o)
    have o1 := Out.ret o1 G0 rfl
    refine ⟨env, z, eH, G0, re, (Out.bnd o1).imp fun bs z2 x2 g2 o2 ys ry => ?_⟩
    split at o2
    · rename_i h
      have o3 := Out.ret o2 g2 rfl
      refine ⟨rfl, by rw [← ry.length]; exact h.2, fun x dx hx hd ne => ?_⟩
      exact mkIns_at ar g2 (RepL.append RepL.nil (RepL.pick ry is)) o3 x dx hx hd ne
    · exact o2.elim
end
end Ol

namespace Ol
open PySem PySem.Spec PyProof.Rows L2
/-! ### fields -/
def lookF (f : Str) : List (Str × D) → Option D
  | [] => none
  | (g, d) :: r => if g = f then some d else lookF f r
def putFD (f : Str) (v : D) : List (Str × D) → List (Str × D)
  | [] => [(f, v)]
  | (g, x) :: r => if g = f then (g, v) :: r else (g, x) :: putFD f v r
section
variable {w : Wd} {z : Sit} {f : Str}
theorem RepF.look : ∀ {fs : List (Str × D)} {us : List (Str × V)} {d : D}, RepF w z fs us → lookF f fs = some d → ∃ v, us.lookup f = some v ∧ Rep w z d v
  | [], _, _, _, e => by cases e
  | (g, x) :: r, us, d, h, e => by
    rw [RepF] at h
    obtain ⟨v, q, rfl, h1, h2⟩ := h
    unfold lookF at e
    split at e
    · rename_i hg
      cases e
      exact ⟨v, by rw [List.lookup_cons, hg]; simp, h1⟩
    · rename_i hg
      obtain ⟨u, h3, h4⟩ := RepF.look h2 e
      refine ⟨u, ?_, h4⟩
      rw [List.lookup_cons]
      have : (f == g) = false := beq_eq_false_iff_ne.mpr (Ne.symm hg)
      rw [this]
      exact h3
theorem RepF.lookN : ∀ {fs : List (Str × D)} {us : List (Str × V)}, RepF w z fs us → lookF f fs = none → us.lookup f = none
  | [], _, h, _ => by rw [RepF] at h; rw [h]; rfl
  | (g, x) :: r, us, h, e => by
    rw [RepF] at h
    obtain ⟨v, q, rfl, h1, h2⟩ := h
    unfold lookF at e
    split at e
    · cases e
    · rename_i hg
      rw [List.lookup_cons]
      have : (f == g) = false := beq_eq_false_iff_ne.mpr (Ne.symm hg)
      rw [this]
      exact RepF.lookN h2 e
theorem RepF.length : ∀ {fs : List (Str × D)} {us : List (Str × V)}, RepF w z fs us → fs.length = us.length
  | [], _, h => by rw [RepF] at h; rw [h]; rfl
  | (g, x) :: r, us, h => by
    rw [RepF] at h
    obtain ⟨v, q, rfl, h1, h2⟩ := h
    simp [RepF.length h2]
theorem RepF.put {d : D} {v : V} (q : Rep w z d v) : ∀ {fs : List (Str × D)} {us : List (Str × V)}, RepF w z fs us → RepF w z (putFD f d fs) (putF f v us)
  | [], _, h => by
    rw [RepF] at h
    rw [h]
    unfold putFD putF
    rw [RepF]
    exact ⟨v, [], rfl, q, by rw [RepF]⟩
  | (g, x) :: r, us, h => by
    rw [RepF] at h
    obtain ⟨u, t, rfl, h1, h2⟩ := h
    unfold putFD putF
    by_cases hg : g = f
    · rw [if_pos hg, if_pos hg, RepF]
      exact ⟨v, t, rfl, q, h2⟩
    · rw [if_neg hg, if_neg hg, RepF]
      exact ⟨u, _, rfl, h1, RepF.put q h2⟩
end
/-- classes that have no attribute of this name -/
def AttrOk (w : Wd) (f : Str) (cs : List Nat) : Prop := ∀ c ∈ cs, Cls w.K (w.cm c) ∧ NoAttr w.K (w.cm c) f
theorem attr_nil {w : Wd} {f : Str} : AttrOk w f [] := fun _ h => by cases h
theorem attr_cons {w : Wd} {f : Str} {c : Nat} {cs : List Nat} (h1 : Cls w.K (w.cm c)) (h2 : NoAttr w.K (w.cm c) f) (r : AttrOk w f cs) : AttrOk w f (c :: cs) := fun d h => by
  rcases List.mem_cons.mp h with e | h
  · rw [e]; exact ⟨h1, h2⟩
  · exact r d h
def dFld (cs : List Nat) (f : Str) (d : D) : M D := fun S => match asI S d with
  | some (c, fs) => if c ∈ cs then (match lookF f fs with | some v => .ok v S | none => .bad) else .bad
  | none => .bad
/-- a constant text of the class -/
def ConOk (w : Wd) (f : Str) (tb : List (Nat × D)) : Prop := ∀ p ∈ tb, Cls w.K (w.cm p.1) ∧ ∃ v u, Con w.K (w.cm p.1) f v u ∧ ∀ z, Rep w z p.2 v
theorem con_nil {w : Wd} {f : Str} : ConOk w f [] := fun _ h => by cases h
theorem con_cons {w : Wd} {f : Str} {c : Nat} {s : Str} {tb : List (Nat × D)} (h1 : Cls w.K (w.cm c)) (h2 : ∃ u, Con w.K (w.cm c) f (.str s) u) (r : ConOk w f tb) : ConOk w f ((c, .str s) :: tb) := fun d h => by
  rcases List.mem_cons.mp h with e | h
  · rw [e]
    obtain ⟨u, h2⟩ := h2
    exact ⟨h1, _, u, h2, fun _ => rep_str⟩
  · exact r d h
def lookC {α : Type} (c : Nat) : List (Nat × α) → Option α
  | [] => none
  | (d, a) :: r => if d = c then some a else lookC c r
theorem lookC_mem {α : Type} {c : Nat} {a : α} : ∀ {l : List (Nat × α)}, lookC c l = some a → (c, a) ∈ l
  | [], h => by cases h
  | (d, b) :: r, h => by
    unfold lookC at h
    split at h
    · rename_i e
      cases h
      rw [e]
      exact List.mem_cons_self
    · exact List.mem_cons_of_mem _ (lookC_mem h)
def dCon (tb : List (Nat × D)) (f : Str) (d : D) : M D := fun S => match asI S d with
  | some (c, fs) => (match lookF f fs, lookC c tb with | none, some v => .ok v S | _, _ => .bad)
  | none => .bad
def sSetF (cs : List Nat) (f : Str) (fo fv : Env8 → M D) : Env8 → M Fl := fun env => (fv env).bnd fun v => (fo env).bnd fun o S => match o with
  | .loc i => match S[i]? with
    | some (.ins c fs) => if c ∈ cs ∧ fs.length < 1000 then .ok (.nx env) (S.set i (.ins c (putFD f v fs))) else .bad
    | _ => .bad
  | _ => .bad
section
variable {X : Cx} {w : Wd} {E : XK} {e a b c o value : Expr} {fa fb fc fo fv : Env8 → M D} {pos pos' : Pos} {f : Str} {cs : List Nat}
theorem Out.okv {z : Sit} {d : D} {Q : VK} {v : V} (o : Out w z (.ok d z.S) (PQ w Q) E) (g : Good w z) (r : Rep w z d v) : Q v z.H := o z rfl (Ex.refl _) g _ r
theorem pm_fld (hK : X.K = w.K) (T : AttrOk w f cs) (A : PM X w E e fa) (hb : attributeBase e f X.env (eval e X.env) = eval e X.env) : PM X w E (.Attribute e f pos) (f1 (dFld cs f) fa) := by
  have p := pe_fld (pos := pos) A hb
  rw [hK] at p
  refine p.wk fun σ H Q ⟨env, z, eH, G, re, o⟩ => ⟨env, z, eH, G, re, (Out.bnd o).imp fun d z1 x1 g1 o1 v rv => ?_⟩
  unfold dFld at o1
  split at o1
  · rename_i c fs h
    split at o1
    · rename_i hc
      split at o1
      · rename_i u hu
        obtain ⟨p, dx, us, e1, h4, r4⟩ := asI_at g1 rv h
        obtain ⟨y, h5, r5⟩ := r4.look hu
        exact ⟨p, _, dx, us, y, e1, h4, (T c hc).1, (T c hc).2, h5, o1.okv g1 r5⟩
      · exact o1.elim
    · exact o1.elim
  · exact o1.elim
theorem pm_con {tb : List (Nat × D)} (hK : X.K = w.K) (T : ConOk w f tb) (A : PM X w E e fa) (hb : attributeBase e f X.env (eval e X.env) = eval e X.env) : PM X w E (.Attribute e f pos) (f1 (dCon tb f) fa) := by
  have p := pe_con (pos := pos) A hb
  rw [hK] at p
  refine p.wk fun σ H Q ⟨env, z, eH, G, re, o⟩ => ⟨env, z, eH, G, re, (Out.bnd o).imp fun d z1 x1 g1 o1 v rv => ?_⟩
  unfold dCon at o1
  split at o1
  · rename_i c fs h
    split at o1
    · rename_i u h1 hu
      obtain ⟨p, dx, us, e1, h4, r4⟩ := asI_at g1 rv h
      obtain ⟨h6, y, y', h7, h8⟩ := T _ (lookC_mem hu)
      exact ⟨p, _, dx, us, y, y', e1, h4, h6, h7, r4.lookN h1, o1.okv g1 (h8 z1)⟩
    · exact o1.elim
  · exact o1.elim
theorem pms_fld (hK : X.K = w.K) (T : AttrOk w f cs) (A : PM X w E o fo) (B : PM X w E value fv) (hs : swapsWith value (some (.Attribute o f pos')) pos.line X.env = pure false) : PMS X w E (.Assign [.Attribute o f pos'] value pos) (sSetF cs f fo fv) := by
  have p := ps_fld A B hs
  rw [hK] at p
  refine p.wk fun De σ H ⟨env, z, eH, G, re, o⟩ => ⟨env, z, eH, G, re, (Out.bnd o).imp fun d z1 x1 g1 o1 v rv => ⟨env, z1, rfl, g1, re.mono x1.vx, (Out.bnd o1).imp fun d' z2 x2 g2 o2 u ru => ?_⟩⟩
  split at o2
  · rename_i i
    split at o2
    · rename_i c fs hS
      split at o2
      · rename_i hc
        rw [Rep] at ru
        obtain ⟨p, e1, hm⟩ := ru
        obtain ⟨dx, us, hH, rf⟩ := g2.at_ _ _ _ hm hS
        have rv2 := rv.mono x2.vx
        have x3 : Ex z2 (z2.wr i (.ins c (putFD f d fs)) (upd z2.H p (.ins (w.cm c) dx (putF f v us)))) := Ex.wr hm hS rfl
        refine ⟨p, _, dx, us, e1, hH, (T c hc.1).1, (T c hc.1).2, by rw [← rf.length]; exact hc.2, ?_⟩
        exact o2 (z2.wr i (.ins c (putFD f d fs)) (upd z2.H p (.ins (w.cm c) dx (putF f v us)))) rfl x3 (g2.wr hm hS rfl ⟨dx, _, upd_same, (RepF.put rv2 rf).mono x3.vx⟩) σ (((re.mono x1.vx).mono x2.vx).mono x3.vx)
      · exact o2.elim
    · exact o2.elim
  · exact o2.elim
end
/-! ### methods -/
def MethOk (X : Cx) (w : Wd) (m : Str) (c : Nat) (G : List D → M D) : Prop := ∃ (k : Nat) (f : Addr) (fd : FuncData) (ps : List Str), Cls X.K (w.cm c) ∧ Meth X.K (w.cm c) m f ∧ FnOk X.prog X.w X.K X.mg X.base (L2.CX X.prog X.w) k f fd ps (spM w ps.length G) ∧ Room k X.A ∧ L2.Binds X.K fd ps [] ∧ Ar ps.length G
def MAll (X : Cx) (w : Wd) (m : Str) (tb : List (Nat × (List D → M D))) : Prop := ∀ p ∈ tb, MethOk X w m p.1 p.2
theorem mall_nil {X : Cx} {w : Wd} {m : Str} : MAll X w m [] := fun _ h => by cases h
theorem mall_cons {X : Cx} {w : Wd} {m : Str} {c k : Nat} {G : List D → M D} {f : Addr} {fd : FuncData} {ps : List Str} {tb : List (Nat × (List D → M D))} (h1 : Cls X.K (w.cm c)) (h2 : Meth X.K (w.cm c) m f) (h3 : FnOk X.prog X.w X.K X.mg X.base (L2.CX X.prog X.w) k f fd ps (spM w ps.length G)) (ar : Ar ps.length G) (h4 : Room k X.A) (h5 : L2.Binds X.K fd ps []) (r : MAll X w m tb) : MAll X w m ((c, G) :: tb) := fun d h => by
  rcases List.mem_cons.mp h with e | h
  · rw [e]; exact ⟨k, f, fd, ps, h1, h2, h3, h4, h5, ar⟩
  · exact r d h
def methOf (m : Str) (tb : List (Nat × (List D → M D))) (o : D) (k : (List D → M D) → M D) : M D := fun S => match asI S o with
  | some (c, fs) => (match lookF m fs, lookC c tb with | none, some G => k G S | _, _ => .bad)
  | none => .bad
def fMeth (m : Str) (tb : List (Nat × (List D → M D))) (fo : Env8 → M D) (fs : Env8 → M (List D)) : Env8 → M D := fun env => (fo env).bnd fun o => methOf m tb o fun G => (fs env).bnd fun ds => G (o :: ds)
section
variable {X : Cx} {w : Wd} {E : XK} {e o : Expr} {es : List Expr} {fo : Env8 → M D} {fs : Env8 → M (List D)} {apos pos : Pos} {m : Str} {tb : List (Nat × (List D → M D))}
theorem pe_ex {ι : Type} {e : Expr} {t : ι → TE} {p : ι → Prop} (h : ∀ i, p i → PE X e (t i)) : PE X e (fun σ H Q => ∃ i, p i ∧ t i σ H Q) := ⟨fun pins s σ H Q I ⟨i, hp, x⟩ => (h i hp).run pins s σ H Q I x⟩
theorem pm_meth {pl : Sem Bool} {p0 : Nat × (List D → M D)} (T : MAll X w m (p0 :: tb)) (hx : Passes (L2.CX X.prog X.w) X E) (A : PM X w E o fo) (B : PMA X w E (e :: es) fs)
    (hst : starEach (e :: es) X.env = (false, eval e X.env) :: starEach es X.env := by rfl) (hpl : (backTo pos (starEach es X.env)).any (·.1) = false := by rfl)
    (ht : eval (.Call (.Attribute o m apos) (e :: es) [] pos) X.env = (do
      let ov ← eval o X.env
      standAt apos.atName
      let (f, first) ← holding [ov] (getMethod ov m pl)
      callWith pos f first (backTo pos (starEach (e :: es) X.env)) (backToKw pos (keywordEach [] X.env))) := by rfl) : PM X w E (.Call (.Attribute o m apos) (e :: es) [] pos) (fMeth m (p0 :: tb) fo fs) := by
  refine (pe_ex (ι := Nat × (List D → M D)) (p := fun p => p ∈ p0 :: tb) (t := fun p => fun σ H Q => ∃ n, Ar n p.2 ∧ tMeth (w.cm p.1) m (spM w n p.2) [] E (tM w E fo) (tMA w E fs) σ H Q) fun p hp => ?_).wk fun σ H Q ⟨env, z, eH, G, re, o⟩ => ?_
  · obtain ⟨k, f, fd, ps, h1, h2, h3, h4, h5, h6⟩ := T p hp
    refine (pe_meth (pl := pl) A h1 h2 h3 h4 h5 .nil hx B hst hpl ht).wk fun σ H Q ⟨n, ar, q⟩ => ?_
    obtain ⟨env, z, eH, g, re, o⟩ := q
    refine ⟨env, z, eH, g, re, o.imp fun d z1 x1 g1 q v rv => ?_⟩
    obtain ⟨a, dx, us, e1, hH, hl, q⟩ := q v rv
    refine ⟨a, dx, us, e1, hH, hl, ?_⟩
    obtain ⟨env', z', e', g', re', o'⟩ := q
    refine ⟨env', z', e', g', re', o'.imp fun ds z2 x2 g2 q vs rvs => ?_⟩
    obtain ⟨hlen, ds', z3, e3, g3, r3, o3⟩ := q vs rvs
    have hn : n = ps.length := by
      by_cases hh : n = ps.length
      · exact hh
      · exfalso
        have h7 : ds'.length = n := r3.length.trans hlen
        rw [h6 ds' z3.S (by omega)] at o3
        exact o3
    subst hn
    exact ⟨hlen, ds', z3, e3, g3, r3, o3⟩
  · have o1 := Out.bnd o
    obtain ⟨k0, f0, fd0, ps0, _, _, _, _, _, ar0⟩ := T p0 List.mem_cons_self
    cases h : fo env z.S with
    | bad => rw [h] at o1; exact o1.elim
    | er c fs' S =>
      rw [h] at o1
      exact ⟨p0, List.mem_cons_self, ps0.length, ar0, env, z, eH, G, re, by rw [h]; exact o1⟩
    | ok d S =>
      rw [h] at o1
      have no : (∀ S1, S1 = S → ∀ k, methOf m (p0 :: tb) d k S1 = .bad) → ∃ p, p ∈ p0 :: tb ∧ ∃ n, Ar n p.2 ∧ tMeth (w.cm p.1) m (spM w n p.2) [] E (tM w E fo) (tMA w E fs) σ H Q := fun hb =>
        ⟨p0, List.mem_cons_self, ps0.length, ar0, env, z, eH, G, re, by
          rw [h]
          intro z1 e1 x1 g1
          have := o1 z1 e1 x1 g1
          dsimp only at this
          rw [hb z1.S e1] at this
          exact this.elim⟩
      cases hI : asI S d with
      | none => exact no fun S1 e1 k => by unfold methOf; rw [e1, hI]
      | some q =>
        obtain ⟨c, fs'⟩ := q
        cases hl : lookF m fs' with
        | some u => exact no fun S1 e1 k => by unfold methOf; rw [e1, hI]; dsimp only; rw [hl]
        | none =>
          cases hc : lookC c (p0 :: tb) with
          | none => exact no fun S1 e1 k => by unfold methOf; rw [e1, hI]; dsimp only; rw [hl, hc]
          | some G' =>
            obtain ⟨k1, f1, fd1, ps1, _, _, _, _, _, ar1⟩ := T (c, G') (lookC_mem hc)
            refine ⟨(c, G'), lookC_mem hc, ps1.length, ar1, env, z, eH, G, re, ?_⟩
            rw [h]
            intro z1 e1 x1 g1 v rv
            have o2 := o1 z1 e1 x1 g1
            dsimp only at o2
            have em : methOf m (p0 :: tb) d (fun G => (fs env).bnd fun ds => G (d :: ds)) z1.S = ((fs env).bnd fun ds => G' (d :: ds)) z1.S := by
              unfold methOf
              rw [e1, hI]
              dsimp only
              rw [hl, hc]
            rw [em] at o2
            obtain ⟨a, dx, us, ea, hH, rf⟩ := asI_at g1 rv (by rw [e1]; exact hI)
            refine ⟨a, dx, us, ea, hH, rf.lookN hl, env, z1, rfl, g1, re.mono x1.vx, (Out.bnd o2).imp fun ds z2 x2 g2 o3 vs rvs => ?_⟩
            simp only [List.append_nil]
            exact sp_of ar1 g2 (RepL.cons (rv.mono x2.vx) rvs) o3
end
end Ol

namespace Ol
open PySem PySem.Spec PyProof.Rows L2
def fMeth0 (m : Str) (tb : List (Nat × (List D → M D))) (fo : Env8 → M D) : Env8 → M D := fun env => (fo env).bnd fun o => methOf m tb o fun G => G [o]
section
variable {X : Cx} {w : Wd} {E : XK} {e o : Expr} {es : List Expr} {fo : Env8 → M D} {fs : Env8 → M (List D)} {apos pos : Pos} {m : Str} {tb : List (Nat × (List D → M D))}
theorem pm_meth0 {pl : Sem Bool} {p0 : Nat × (List D → M D)} (T : MAll X w m (p0 :: tb)) (hx : Passes (L2.CX X.prog X.w) X E) (A : PM X w E o fo)
    (ht : eval (.Call (.Attribute o m apos) [] [] pos) X.env = (do
      let ov ← eval o X.env
      standAt apos.atName
      let (f, first) ← holding [ov] (getMethod ov m pl)
      callWith pos f first (backTo pos (starEach [] X.env)) (backToKw pos (keywordEach [] X.env))) := by rfl) : PM X w E (.Call (.Attribute o m apos) [] [] pos) (fMeth0 m (p0 :: tb) fo) := by
  refine (pe_ex (ι := Nat × (List D → M D)) (p := fun p => p ∈ p0 :: tb) (t := fun p => fun σ H Q => ∃ n, Ar n p.2 ∧ tMeth (w.cm p.1) m (spM w n p.2) [] E (tM w E fo) tNil σ H Q) fun p hp => ?_).wk fun σ H Q ⟨env, z, eH, G, re, o⟩ => ?_
  · obtain ⟨k, f, fd, ps, h1, h2, h3, h4, h5, h6⟩ := T p hp
    refine (pe_meth0 (pl := pl) A h1 h2 h3 h4 h5 .nil hx ht).wk fun σ H Q ⟨n, ar, q⟩ => ?_
    obtain ⟨env, z, eH, g, re, o⟩ := q
    refine ⟨env, z, eH, g, re, o.imp fun d z1 x1 g1 q v rv => ?_⟩
    obtain ⟨a, dx, us, e1, hH, hl, q⟩ := q v rv
    refine ⟨a, dx, us, e1, hH, hl, ?_⟩
    obtain ⟨hlen, ds', z3, e3, g3, r3, o3⟩ := q
    have hn : n = ps.length := by
      by_cases hh : n = ps.length
      · exact hh
      · exfalso
        have h7 : ds'.length = n := r3.length.trans hlen
        rw [h6 ds' z3.S (by omega)] at o3
        exact o3
    subst hn
    exact ⟨hlen, ds', z3, e3, g3, r3, o3⟩
  · have o1 := Out.bnd o
    obtain ⟨k0, f0, fd0, ps0, _, _, _, _, _, ar0⟩ := T p0 List.mem_cons_self
    cases h : fo env z.S with
    | bad => rw [h] at o1; exact o1.elim
    | er c fs' S =>
      rw [h] at o1
      exact ⟨p0, List.mem_cons_self, ps0.length, ar0, env, z, eH, G, re, by rw [h]; exact o1⟩
    | ok d S =>
      rw [h] at o1
      have no : (∀ S1, S1 = S → ∀ k, methOf m (p0 :: tb) d k S1 = .bad) → ∃ p, p ∈ p0 :: tb ∧ ∃ n, Ar n p.2 ∧ tMeth (w.cm p.1) m (spM w n p.2) [] E (tM w E fo) tNil σ H Q := fun hb =>
        ⟨p0, List.mem_cons_self, ps0.length, ar0, env, z, eH, G, re, by
          rw [h]
          intro z1 e1 x1 g1
          have := o1 z1 e1 x1 g1
          dsimp only at this
          rw [hb z1.S e1] at this
          exact this.elim⟩
      cases hI : asI S d with
      | none => exact no fun S1 e1 k => by unfold methOf; rw [e1, hI]
      | some q =>
        obtain ⟨c, fs'⟩ := q
        cases hl : lookF m fs' with
        | some u => exact no fun S1 e1 k => by unfold methOf; rw [e1, hI]; dsimp only; rw [hl]
        | none =>
          cases hc : lookC c (p0 :: tb) with
          | none => exact no fun S1 e1 k => by unfold methOf; rw [e1, hI]; dsimp only; rw [hl, hc]
          | some G' =>
            obtain ⟨k1, f1, fd1, ps1, _, _, _, _, _, ar1⟩ := T (c, G') (lookC_mem hc)
            refine ⟨(c, G'), lookC_mem hc, ps1.length, ar1, env, z, eH, G, re, ?_⟩
            rw [h]
            intro z1 e1 x1 g1 v rv
            have o2 := o1 z1 e1 x1 g1
            dsimp only at o2
            have em : methOf m (p0 :: tb) d (fun G => G [d]) z1.S = G' [d] z1.S := by
              unfold methOf
              rw [e1, hI]
              dsimp only
              rw [hl, hc]
            rw [em] at o2
            obtain ⟨a, dx, us, ea, hH, rf⟩ := asI_at g1 rv (by rw [e1]; exact hI)
            refine ⟨a, dx, us, ea, hH, rf.lookN hl, ?_⟩
            exact sp_of ar1 g1 (RepL.cons rv RepL.nil) o2
end
/-! ### kinds -/
inductive Tg where
  | ty (s : String) | own (c : Nat)
  deriving DecidableEq
def Tg.val (w : Wd) : Tg → Value
  | .ty s => .type s
  | .own c => .ref (w.cm c)
def tagOf (S : Store) : D → Option Tg
  | .non => some (.ty "NoneType")
  | .bl _ => some (.ty "bool")
  | .int _ => some (.ty "int")
  | .str _ => some (.ty "str")
  | .lst _ => some (.ty "list")
  | .tup _ => some (.ty "tuple")
  | .dct _ => some (.ty "dict")
  | .ins c _ => some (.own c)
  | .loc i => match S[i]? with
    | some (.lst _) => some (.ty "list")
    | some (.dct _) => some (.ty "dict")
    | some (.ins c _) => some (.own c)
    | _ => none
  | _ => none
def IsOk (w : Wd) (cs : List Nat) : Prop := ∀ c ∈ cs, IsC w.K (w.cm c)
theorem iso_nil {w : Wd} : IsOk w [] := fun _ h => by cases h
theorem iso_cons {w : Wd} {c : Nat} {cs : List Nat} (h : IsC w.K (w.cm c)) (r : IsOk w cs) : IsOk w (c :: cs) := fun d q => by
  rcases List.mem_cons.mp q with e | q
  · rw [e]; exact h
  · exact r d q
def okTag (cs : List Nat) : Tg → Bool
  | .ty _ => true
  | .own c => decide (c ∈ cs)
theorem tag_at {w : Wd} {z : Sit} {d : D} {v : V} {t : Tg} {cs : List Nat} (T : IsOk w cs) (g : Good w z) (r : Rep w z d v) (e : tagOf z.S d = some t) (ok : okTag cs t = true) : TyX w.K z.H v (t.val w) := by
  cases d with
  | non => cases e; rw [Rep] at r; rw [r]; exact .base .non
  | bl b => cases e; rw [Rep] at r; rw [r]; exact .base (.bl b)
  | int b => cases e; rw [Rep] at r; rw [r]; exact .base (.int b)
  | str b => cases e; rw [Rep] at r; rw [r]; exact .base (.str b)
  | lst ds => cases e; rw [Rep] at r; obtain ⟨a, vs, rfl, _, h, _⟩ := r; exact .base (.lst h)
  | tup ds =>
    cases e
    rw [Rep] at r
    obtain ⟨a, vs, rfl, h, _⟩ := r
    rcases h with ⟨_, h | ⟨o, h⟩⟩ | ⟨o, _, _, h1, h2, _⟩
    · exact .base (.tup h)
    · exact .fTuple h
    · exact .kTuple h1 h2
  | dct ds => cases e; rw [Rep] at r; obtain ⟨a, vs, rfl, _, h, _⟩ := r; exact .base (.dK h)
  | ins c fs =>
    cases e
    rw [Rep] at r
    obtain ⟨a, dx, vs, rfl, _, h, _⟩ := r
    exact (T c (of_decide_eq_true ok)).ty h
  | loc i =>
    rw [Rep] at r
    obtain ⟨a, rfl, hm⟩ := r
    unfold tagOf at e
    dsimp only at e
    split at e
    · rename_i h
      cases e
      obtain ⟨vs, h1, _⟩ := g.at_ _ _ _ hm h
      exact .base (.lst h1)
    · rename_i h
      cases e
      obtain ⟨vs, h1, _⟩ := g.at_ _ _ _ hm h
      exact .base (.dK h1)
    · rename_i h
      cases e
      obtain ⟨dx, vs, h1, _⟩ := g.at_ _ _ _ hm h
      exact (T _ (of_decide_eq_true ok)).ty h1
    · cases e
  | err _ _ => cases e
  | cls _ => cases e
  | ty _ => cases e
  | scr _ => cases e
/-- which kind is below which -/
def kitL (tb : List (Tg × Tg × Bool)) (t u : Tg) : Option Bool := match tb with
  | [] => none
  | (a, b, r) :: q => if a = t ∧ b = u then some r else kitL q t u
def KitOk (w : Wd) (tb : List (Tg × Tg × Bool)) : Prop := ∀ p ∈ tb, PySem.W.kitOne w.K (p.1.val w) (p.2.1.val w) = some p.2.2
theorem kit_nil {w : Wd} : KitOk w [] := fun _ h => by cases h
theorem kit_cons {w : Wd} {t u : Tg} {b : Bool} {tb : List (Tg × Tg × Bool)} (h : PySem.W.kitOne w.K (t.val w) (u.val w) = some b) (r : KitOk w tb) : KitOk w ((t, u, b) :: tb) := fun d q => by
  rcases List.mem_cons.mp q with e | q
  · rw [e]; exact h
  · exact r d q
theorem kitL_at {w : Wd} {tb : List (Tg × Tg × Bool)} {t u : Tg} {b : Bool} (T : KitOk w tb) (h : kitL tb t u = some b) : PySem.W.kitOne w.K (t.val w) (u.val w) = some b := by
  induction tb with
  | nil => cases h
  | cons p q ih =>
    obtain ⟨x, y, r⟩ := p
    unfold kitL at h
    split at h
    · rename_i e
      cases h
      obtain ⟨rfl, rfl⟩ := e
      exact T _ List.mem_cons_self
    · exact ih (fun d hd => T d (List.mem_cons_of_mem _ hd)) h
/-- kinds of the errors -/
def ErrsOk (w : Wd) (cs : List Nat) : Prop := ∀ c ∈ cs, ExcC w.K (w.cm c)
theorem errs_nil {w : Wd} : ErrsOk w [] := fun _ h => by cases h
theorem errs_cons {w : Wd} {c : Nat} {cs : List Nat} (h : ExcC w.K (w.cm c)) (r : ErrsOk w cs) : ErrsOk w (c :: cs) := fun d q => by
  rcases List.mem_cons.mp q with e | q
  · rw [e]; exact h
  · exact r d q
def clsTag : D → Option Tg
  | .cls c => some (.own c)
  | .ty s => some (.ty s)
  | _ => none
def clsTags : List D → Option (List Tg)
  | [] => some []
  | d :: ds => match clsTag d, clsTags ds with
    | some t, some ts => some (t :: ts)
    | _, _ => none
def anyKit (tb : List (Tg × Tg × Bool)) (t : Tg) : List Tg → Option Bool
  | [] => some false
  | u :: us => match kitL tb t u with
    | some true => some true
    | some false => anyKit tb t us
    | none => none
/-- own: classes whose instances are known, ers: errors -/
structure Kinds (w : Wd) (own ers : List Nat) (tb : List (Tg × Tg × Bool)) : Prop where
  own : IsOk w own
  ers : ErrsOk w ers
  kit : KitOk w tb
/-- the kind of a value, an error too -/
def kindOf (own ers : List Nat) (S : Store) : D → Option Tg
  | .err c _ => if c ∈ ers then some (.own c) else none
  | d => match tagOf S d with
    | some t => if okTag own t = true then some t else none
    | none => none
def dIsi (own ers : List Nat) (tb : List (Tg × Tg × Bool)) (as : List D) : M D := fun S => match as with
  | [d, k] => (match kindOf own ers S d, clsTag k with
    | some t, some u => (match kitL tb t u with | some b => .ok (.bl b) S | none => .bad)
    | _, _ => .bad)
  | _ => .bad
/-- isinstance(d, (k, ..)) -/
def dIsiT (own ers : List Nat) (tb : List (Tg × Tg × Bool)) (d : D) (ks : List D) : M D := fun S => if ks.length ≤ big then (match kindOf own ers S d, clsTags ks with
    | some t, some us => (match anyKit tb t us with | some b => .ok (.bl b) S | none => .bad)
    | _, _ => .bad) else .bad
section
variable {w : Wd} {z : Sit}
theorem clsTag_at {d : D} {v : V} {t : Tg} (r : Rep w z d v) (e : clsTag d = some t) : ClsV v (t.val w) := by
  cases d with
  | cls c => cases e; rw [Rep] at r; rw [r]; exact .own _
  | ty s => cases e; rw [Rep] at r; rw [r]; exact .ty s
  | _ => cases e
theorem clsTags_at : ∀ {ds : List D} {vs : List V} {ts : List Tg}, RepL w z ds vs → clsTags ds = some ts → Paired ClsV vs (ts.map (Tg.val w))
  | [], _, _, r, e => by rw [RepL] at r; cases e; rw [r]; exact .nil
  | d :: ds, _, _, r, e => by
    rw [RepL] at r
    obtain ⟨v, q, rfl, r1, r2⟩ := r
    unfold clsTags at e
    cases h1 : clsTag d with
    | none => rw [h1] at e; cases e
    | some t =>
      cases h2 : clsTags ds with
      | none => rw [h1, h2] at e; cases e
      | some ts =>
        rw [h1, h2] at e
        cases e
        exact .cons (clsTag_at r1 h1) (clsTags_at r2 h2)
theorem anyKit_at {tb : List (Tg × Tg × Bool)} {t : Tg} (T : KitOk w tb) : ∀ {us : List Tg} {b : Bool}, anyKit tb t us = some b → PySem.W.kitAny w.K (t.val w) (us.map (Tg.val w)) = some b
  | [], b, h => by cases h; exact kitAny_nil
  | u :: us, b, h => by
    unfold anyKit at h
    split at h
    · rename_i h1
      cases h
      exact kitAny_cons (r := true) (kitL_at T h1) (fun z => by cases z) fun _ => rfl
    · rename_i h1
      exact kitAny_cons (kitL_at T h1) (fun _ => anyKit_at T h) fun z => by cases z
    · cases h
end
/-! ### calls of what is built in -/
structure Bi8 (X : Cx) (w : Wd) (E : XK) (f : Value) (g : List D → M D) : Prop where
  ex : ∃ r, CallR X f r ∧ DoesN w E r g
section
variable {X : Cx} {w : Wd} {E : XK} {x : Str} {p pos : Pos} {e : Expr} {es : List Expr} {id T : String} {g g' : List D → M D} {fs : Env8 → M (List D)}
theorem pm_b (B : Bi8 X w E (.builtin id) g) (hg : Gl X x) (hm : X.mg x = none) (hv : bootBuiltins x = some (.builtin id)) (A : PMA X w E (e :: es) fs) (hn : x ≠ "__name__" := by decide) (hdb : (x == ("__debug__" : Str)) = false := by decide)
    (he : starEach (e :: es) X.env = (false, eval e X.env) :: starEach es X.env := by rfl) (hpl : (backTo pos (starEach es X.env)).any (·.1) = false := by rfl) : PM X w E (.Call (.Name x p) (e :: es) [] pos) (f1 g fs) := by
  obtain ⟨r, h1, h2⟩ := B.ex
  exact pm_n (pe_callB h1 hg hm hv A hn hdb he hpl) h2
theorem pm_ty (B : Bi8 X w E (.type T) g) (hg : Gl X x) (hm : X.mg x = none) (hv : bootBuiltins x = some (.type T)) (A : PMA X w E (e :: es) fs) (hn : x ≠ "__name__" := by decide) (hdb : (x == ("__debug__" : Str)) = false := by decide)
    (he : starEach (e :: es) X.env = (false, eval e X.env) :: starEach es X.env := by rfl) (hpl : (backTo pos (starEach es X.env)).any (·.1) = false := by rfl) : PM X w E (.Call (.Name x p) (e :: es) [] pos) (f1 g fs) := by
  obtain ⟨r, h1, h2⟩ := B.ex
  exact pm_n (pe_callTy h1 hg hm hv A hn hdb he hpl) h2
/-- one function, or another one where the first has no word -/
def gAlt {α : Type} (g g' : α → M D) : α → M D := fun as S => match g as S with
  | .bad => g' as S
  | r => r
theorem Bi8.or {f : Value} (B : Bi8 X w E f g) (B' : Bi8 X w E f g') : Bi8 X w E f (gAlt g g') := by
  obtain ⟨r, h1, h2⟩ := B.ex
  obtain ⟨r', h1', h2'⟩ := B'.ex
  refine ⟨_, cr_or h1 h1', fun z as xs Q G rp o => ?_⟩
  unfold gAlt at o
  cases h : g as z.S with
  | ok a S => rw [h] at o; exact .inl (h2 z as xs Q G rp (by rw [h]; exact o))
  | er c fs S => rw [h] at o; exact .inl (h2 z as xs Q G rp (by rw [h]; exact o))
  | bad => rw [h] at o; exact .inr (h2' z as xs Q G rp o)
theorem RepL.one {z : Sit} {d : D} {xs : List V} (r : RepL w z [d] xs) : ∃ v, xs = [v] ∧ Rep w z d v := by
  rw [RepL] at r
  obtain ⟨v, q, rfl, r1, r2⟩ := r
  rw [RepL] at r2
  rw [r2]
  exact ⟨v, rfl, r1⟩
theorem RepL.two {z : Sit} {d d' : D} {xs : List V} (r : RepL w z [d, d'] xs) : ∃ v u, xs = [v, u] ∧ Rep w z d v ∧ Rep w z d' u := by
  rw [RepL] at r
  obtain ⟨v, q, rfl, r1, r2⟩ := r
  obtain ⟨u, rfl, r3⟩ := RepL.one r2
  exact ⟨v, u, rfl, r1, r3⟩
theorem call_isVK (h : X.K = w.K) : CallR X (.builtin "isinstance") (rIsV w.K) := by rw [← h]; exact call_isV
theorem call_isVTK (h : X.K = w.K) : CallR X (.builtin "isinstance") (rIsVT w.K) := by rw [← h]; exact call_isVT
theorem call_isiTK (h : X.K = w.K) : CallR X (.builtin "isinstance") (rIsiT w.K) := by rw [← h]; exact call_isiT
theorem kind_at {own ers : List Nat} {tb : List (Tg × Tg × Bool)} {z : Sit} {d : D} {v : V} {t : Tg} (T : Kinds w own ers tb) (g : Good w z) (r : Rep w z d v) (e : kindOf own ers z.S d = some t) : TyX w.K z.H v (t.val w) ∨ ∃ a c, v = .ref a ∧ t = .own c ∧ ErrO z.H a (w.cm c) ∧ ExcC w.K (w.cm c) := by
  unfold kindOf at e
  split at e
  · split at e
    · rename_i hc
      cases e
      rw [Rep] at r
      obtain ⟨a, dx, us, rfl, _, h, _, h2, _⟩ := r
      exact .inr ⟨a, _, rfl, rfl, ⟨some dx, h, fun dx' e' => by cases e'; exact ⟨us, h2⟩⟩, T.ers _ hc⟩
    · cases e
  · split at e
    · split at e
      · rename_i h1 h2
        cases e
        exact .inl (tag_at T.own g r h1 h2)
      · cases e
    · cases e
theorem b_isi {own ers : List Nat} {tb : List (Tg × Tg × Bool)} (hK : X.K = w.K) (T : Kinds w own ers tb) : Bi8 X w E (.builtin "isinstance") (dIsi own ers tb) := by
  refine ⟨_, cr_or (call_isiK' hK) (call_isVK hK), fun z as xs Q g rp o => ?_⟩
  unfold dIsi at o
  split at o
  · obtain ⟨v, u, rfl, r1, r2⟩ := RepL.two rp
    split at o
    · rename_i h1 h2
      split at o
      · rename_i h3
        have k := kitL_at T.kit h3
        rcases kind_at T g r1 h1 with ty | ⟨a, c, rfl, rfl, eo, ex⟩
        · exact .inl ⟨v, u, _, _, _, rfl, clsTag_at r2 h2, ty, k, o.okv g rep_bl⟩
        · exact .inr ⟨a, _, u, _, _, rfl, eo, ex, clsTag_at r2 h2, k, o.okv g rep_bl⟩
      · exact o.elim
    · exact o.elim
  · exact o.elim
theorem pm_isiT {own ers : List Nat} {tb : List (Tg × Tg × Bool)} {a : Expr} {ks : List Expr} {fa : Env8 → M D} {q : Pos} {kk} (hK : X.K = w.K) (T : Kinds w own ers tb) (hg : Gl X "isinstance") (hm : X.mg "isinstance" = none) (hv : bootBuiltins "isinstance" = some (.builtin "isinstance")) (A : PM X w E a fa) (B : PMA X w E ks fs)
    (he : starEach [a, .Tuple ks kk q] X.env = (false, eval a X.env) :: starEach [.Tuple ks kk q] X.env := by rfl) (he2 : starEach [.Tuple ks kk q] X.env = (false, eval (.Tuple ks kk q) X.env) :: starEach [] X.env := by rfl) (hpl : (backTo pos (starEach [.Tuple ks kk q] X.env)).any (·.1) = false := by rfl) :
    PM X w E (.Call (.Name "isinstance" p) [a, .Tuple ks kk q] [] pos) (fun env => (fa env).bnd fun d => (fs env).bnd fun ks => dIsiT own ers tb d ks) := by
  refine (pe_callB (cr_or (call_isiTK hK) (call_isVTK hK)) hg hm hv (pa_cons A (pa_cons (pe_tup B) pa_nil he2) he) (by decide) (by decide) he hpl).wk fun σ H Q ⟨env, z, eH, G, re, o⟩ => ?_
  refine ⟨env, z, eH, G, re, (Out.bnd o).imp fun d z1 x1 g1 o1 v rv => ⟨env, z1, rfl, g1, re.mono x1.vx, (Out.bnd o1).imp fun ds z2 x2 g2 o2 vs rvs => ?_⟩⟩
  unfold dIsiT at o2
  split at o2
  · rename_i hb
    refine ⟨big_le (by rw [← rvs.length]; exact hb), fun p hp => ?_⟩
    split at o2
    · rename_i h1 h2
      split at o2
      · rename_i h3
        have s := Same.new (o := .tup vs) hp
        have x3 := Ex.more s
        have g3 := g2.more s
        have k := anyKit_at T.kit h3
        have fin : Q (.bl _) _ := o2 (z2.on (upd z2.H p (.tup vs))) rfl x3 g3 _ rep_bl
        have pc := clsTags_at rvs h2
        rcases kind_at T g3 ((rv.mono x2.vx).mono x3.vx) h1 with ty | ⟨a, c, rfl, rfl, eo, ex⟩
        · exact .inl ⟨v, p, vs, _, _, _, rfl, upd_same, pc, ty, k, fin⟩
        · exact .inr ⟨a, _, p, vs, _, _, rfl, eo, ex, upd_same, pc, k, fin⟩
      · exact o2.elim
    · exact o2.elim
  · exact o2.elim
/-! the usual ones -/
def dLen (as : List D) : M D := fun S => match as with
  | [.str s] => if s.length ≤ big then .ok (.int s.length) S else .bad
  | [.tup ds] => .ok (.int ds.length) S
  | [d] => match asL S d with
    | some ds => .ok (.int ds.length) S
    | none => match asK S d with
      | some kvs => .ok (.int kvs.length) S
      | none => .bad
  | _ => .bad
theorem RepK.length {z : Sit} : ∀ {ds : List (Key × D)} {vs : List (Key × V)}, RepK w z ds vs → ds.length = vs.length
  | [], _, h => by rw [RepK] at h; rw [h]; rfl
  | (k, d) :: ds, vs, h => by
    rw [RepK] at h
    obtain ⟨v, r, rfl, _, h2⟩ := h
    simp [RepK.length h2]
theorem b_len (hK : X.K = w.K) : Bi8 X w E (.builtin "len") dLen := by
  refine ⟨_, cr_or (call_lenK hK) (cr_or call_len_str call_lenD), fun z as xs Q g rp o => ?_⟩
  unfold dLen at o
  split at o
  · obtain ⟨v, rfl, r⟩ := RepL.one rp
    split at o
    · rename_i h
      rw [Rep] at r
      rw [r]
      exact .inr (.inl ⟨_, rfl, big_le h, o.okv g rep_int⟩)
    · exact o.elim
  · obtain ⟨v, rfl, r⟩ := RepL.one rp
    obtain ⟨a, vs, rfl, h, r⟩ := asT_at r rfl
    rw [r.length] at o
    exact .inl ⟨a, vs, rfl, .inr h, o.okv g rep_int⟩
  · obtain ⟨v, rfl, r⟩ := RepL.one rp
    split at o
    · rename_i h
      obtain ⟨a, vs, rfl, h, r⟩ := asL_at g r h
      rw [r.length] at o
      exact .inl ⟨a, vs, rfl, .inl (.inl (.inl h)), o.okv g rep_int⟩
    · split at o
      · rename_i h
        obtain ⟨a, vs, rfl, h, r⟩ := asK_at g r h
        rw [r.length] at o
        exact .inr (.inr ⟨a, vs, rfl, h, o.okv g rep_int⟩)
      · exact o.elim
  · exact o.elim
def dAbs : List D → M D
  | [.int i] => M.ret (.int (if i < 0 then -i else i))
  | _ => M.bad
theorem b_abs : Bi8 X w E (.builtin "abs") dAbs := by
  refine ⟨_, call_abs, fun z as xs Q g rp o => ?_⟩
  unfold dAbs at o
  split at o
  · obtain ⟨v, rfl, r⟩ := RepL.one rp
    rw [Rep] at r
    rw [r]
    exact ⟨_, rfl, o.v g rep_int⟩
  · exact o.elim
def dInt : List D → M D
  | [.int i] => M.ret (.int i)
  | [.bl b] => M.ret (.int (if b then 1 else 0))
  | _ => M.bad
theorem b_int : Bi8 X w E (.type "int") dInt := by
  refine ⟨_, call_int1, fun z as xs Q g rp o => ?_⟩
  unfold dInt at o
  split at o
  · obtain ⟨v, rfl, r⟩ := RepL.one rp
    rw [Rep] at r
    rw [r]
    exact .inl ⟨_, rfl, o.v g rep_int⟩
  · obtain ⟨v, rfl, r⟩ := RepL.one rp
    rw [Rep] at r
    rw [r]
    exact .inr ⟨_, rfl, o.v g rep_int⟩
  · exact o.elim
def dStr : List D → M D
  | [.int i] => if i.natAbs.log2 < 1920 then M.ret (.str (toString i)) else M.bad
  | _ => M.bad
theorem b_str : Bi8 X w E (.type "str") dStr := by
  refine ⟨_, call_str_int, fun z as xs Q g rp o => ?_⟩
  unfold dStr at o
  split at o
  · obtain ⟨v, rfl, r⟩ := RepL.one rp
    rw [Rep] at r
    rw [r]
    split at o
    · rename_i h
      exact ⟨_, rfl, h, o.v g rep_str⟩
    · exact o.elim
  · exact o.elim
def dMax2 : List D → M D
  | [.int i, .int j] => M.ret (.int (if j > i then j else i))
  | _ => M.bad
def dMin2 : List D → M D
  | [.int i, .int j] => M.ret (.int (if j < i then j else i))
  | _ => M.bad
theorem b_max2 (hc : X.calm = true) : Bi8 X w E (.builtin "max") dMax2 := by
  refine ⟨_, call_max2 hc, fun z as xs Q g rp o => ?_⟩
  unfold dMax2 at o
  split at o
  · obtain ⟨v, u, rfl, r, r'⟩ := RepL.two rp
    rw [Rep] at r r'
    rw [r, r']
    exact ⟨_, _, rfl, o.v g rep_int⟩
  · exact o.elim
theorem b_min2 (hc : X.calm = true) : Bi8 X w E (.builtin "min") dMin2 := by
  refine ⟨_, call_min2 hc, fun z as xs Q g rp o => ?_⟩
  unfold dMin2 at o
  split at o
  · obtain ⟨v, u, rfl, r, r'⟩ := RepL.two rp
    rw [Rep] at r r'
    rw [r, r']
    exact ⟨_, _, rfl, o.v g rep_int⟩
  · exact o.elim
/-- list(..) -/
def dList (as : List D) : M D := fun S => match as with
  | [.tup ds] => .ok (.lst ds) S
  | [.scr ns] => .ok (.lst (ns.map .int)) S
  | [d] => match asL S d with
    | some ds => .ok (.lst ds) S
    | none => .bad
  | _ => .bad
/-- list(..) that may be written -/
def dListM (as : List D) : M D := fun S => match dList as S with
  | .ok (.lst ds) S' => .ok (.loc S'.length) (S' ++ [.lst ds])
  | _ => .bad
theorem call_list_ofK (h : X.K = w.K) : CallR X (.type "list") (fun xs H Q => ∃ p ys, xs = [.ref p] ∧ (SqL w.K H p ys ∨ SqT w.K H p ys) ∧ ∀ l, H l = none → Q (.ref l) (upd H l (.lst ys))) := by rw [← h]; exact call_list_of
theorem list_src {z : Sit} {as : List D} {xs : List V} {ds : List D} {S : Store} (g : Good w z) (rp : RepL w z as xs) (h : dList as z.S = .ok (.lst ds) S) : S = z.S ∧ ∃ p ys, xs = [.ref p] ∧ (SqL w.K z.H p ys ∨ SqT w.K z.H p ys) ∧ RepL w z ds ys := by
  unfold dList at h
  split at h
  · cases h
    obtain ⟨v, rfl, r⟩ := RepL.one rp
    obtain ⟨a, vs, rfl, h, r⟩ := asT_at r rfl
    exact ⟨rfl, a, vs, rfl, .inr h, r⟩
  · cases h
    obtain ⟨v, rfl, r⟩ := RepL.one rp
    rw [Rep] at r
    obtain ⟨a, rfl, h⟩ := r
    refine ⟨rfl, a, _, rfl, .inl ?_, RepL.mkInts _⟩
    rcases h with ⟨_, h⟩ | h
    · exact .inl h
    · exact .inr h
  · obtain ⟨v, rfl, r⟩ := RepL.one rp
    split at h
    · rename_i hl
      cases h
      obtain ⟨a, vs, rfl, h, r⟩ := asL_at g r hl
      exact ⟨rfl, a, vs, rfl, .inl (.inl (.inl h)), r⟩
    · cases h
  · cases h
theorem b_list (hK : X.K = w.K) : Bi8 X w E (.type "list") dList := by
  refine ⟨_, call_list_ofK hK, fun z as xs Q g rp o => ?_⟩
  have : ∃ ds, dList as z.S = .ok (.lst ds) z.S := by
    unfold dList at o ⊢
    split at o
    · exact ⟨_, rfl⟩
    · exact ⟨_, rfl⟩
    · split at o
      · rename_i h; exact ⟨_, rfl⟩
      · exact o.elim
    · exact o.elim
  obtain ⟨ds, e⟩ := this
  rw [e] at o
  obtain ⟨_, p, ys, rfl, h1, h2⟩ := list_src g rp e
  exact ⟨p, ys, rfl, h1, new_lst g h2 o⟩
theorem b_listM (hK : X.K = w.K) : Bi8 X w E (.type "list") dListM := by
  refine ⟨_, call_list_ofK hK, fun z as xs Q g rp o => ?_⟩
  unfold dListM at o
  split at o
  · rename_i ds S' e
    obtain ⟨rfl, p, ys, rfl, h1, h2⟩ := list_src g rp e
    exact ⟨p, ys, rfl, h1, new_loc g h2 o⟩
  · exact o.elim
def dTuple (as : List D) : M D := fun S => match as with
  | [.tup ds] => .ok (.tup ds) S
  | [d] => match asL S d with
    | some ds => .ok (.tup ds) S
    | none => .bad
  | _ => .bad
theorem call_tuple_ofK (h : X.K = w.K) : CallR X (.type "tuple") (fun xs H Q => ∃ p ys, xs = [.ref p] ∧ ((SqL w.K H p ys ∧ ∀ l, H l = none → Q (.ref l) (upd H l (.tup ys))) ∨ (SqT w.K H p ys ∧ Q (.ref p) H))) := by rw [← h]; exact call_tuple_of
theorem b_tuple (hK : X.K = w.K) : Bi8 X w E (.type "tuple") dTuple := by
  refine ⟨_, call_tuple_ofK hK, fun z as xs Q g rp o => ?_⟩
  unfold dTuple at o
  split at o
  · obtain ⟨v, rfl, r⟩ := RepL.one rp
    have r0 := r
    obtain ⟨a, vs, rfl, h, r⟩ := asT_at r rfl
    exact ⟨a, vs, rfl, .inr ⟨h, o.okv g r0⟩⟩
  · obtain ⟨v, rfl, r⟩ := RepL.one rp
    split at o
    · rename_i hl
      obtain ⟨a, vs, rfl, h, r⟩ := asL_at g r hl
      exact ⟨a, vs, rfl, .inl ⟨.inl (.inl h), new_tup g r o⟩⟩
    · exact o.elim
  · exact o.elim
/-! of lists of numbers, of truths -/
def intsOf : List D → Option (List Int)
  | [] => some []
  | .int i :: ds => (intsOf ds).map (i :: ·)
  | _ :: _ => none
def blsOf : List D → Option (List Bool)
  | [] => some []
  | .bl i :: ds => (blsOf ds).map (i :: ·)
  | _ :: _ => none
theorem intsOf_at : ∀ {ds : List D} {ns : List Int}, intsOf ds = some ns → ds = ns.map D.int
  | [], _, h => by cases h; rfl
  | .int i :: ds, ns, h => by
    unfold intsOf at h
    rw [Option.map_eq_some_iff] at h
    obtain ⟨ms, h, rfl⟩ := h
    rw [intsOf_at h]; rfl
  | .non :: _, _, h | .bl _ :: _, _, h | .str _ :: _, _, h | .lst _ :: _, _, h | .tup _ :: _, _, h | .dct _ :: _, _, h | .ins _ _ :: _, _, h | .err _ _ :: _, _, h | .cls _ :: _, _, h | .ty _ :: _, _, h | .loc _ :: _, _, h | .scr _ :: _, _, h => by cases h
theorem intsOf_map (ns : List Int) : intsOf (ns.map D.int) = some ns := by
  induction ns with
  | nil => rfl
  | cons n r ih => rw [List.map_cons, intsOf, ih]; rfl
theorem blsOf_at : ∀ {ds : List D} {ns : List Bool}, blsOf ds = some ns → ds = ns.map D.bl
  | [], _, h => by cases h; rfl
  | .bl i :: ds, ns, h => by
    unfold blsOf at h
    rw [Option.map_eq_some_iff] at h
    obtain ⟨ms, h, rfl⟩ := h
    rw [blsOf_at h]; rfl
  | .non :: _, _, h | .int _ :: _, _, h | .str _ :: _, _, h | .lst _ :: _, _, h | .tup _ :: _, _, h | .dct _ :: _, _, h | .ins _ _ :: _, _, h | .err _ _ :: _, _, h | .cls _ :: _, _, h | .ty _ :: _, _, h | .loc _ :: _, _, h | .scr _ :: _, _, h => by cases h
theorem blsOf_map (ns : List Bool) : blsOf (ns.map D.bl) = some ns := by
  induction ns with
  | nil => rfl
  | cons n r ih => rw [List.map_cons, blsOf, ih]; rfl
def dSum (as : List D) : M D := fun S => match as with
  | [d] => match (asL S d).bind intsOf with
    | some ns => .ok (.int ns.sum) S
    | none => .bad
  | _ => .bad
def dAll (as : List D) : M D := fun S => match as with
  | [d] => match (asL S d).bind blsOf with
    | some bs => .ok (.bl (bs.all _root_.id)) S
    | none => .bad
  | _ => .bad
def dAny (as : List D) : M D := fun S => match as with
  | [d] => match (asL S d).bind blsOf with
    | some bs => .ok (.bl (bs.any _root_.id)) S
    | none => .bad
  | _ => .bad
theorem ints_at {z : Sit} {d : D} {v : V} {ns : List Int} (g : Good w z) (r : Rep w z d v) (h : (asL z.S d).bind intsOf = some ns) : ∃ a, v = .ref a ∧ SqL w.K z.H a (ns.map V.int) := by
  cases e : asL z.S d with
  | none => rw [e] at h; cases h
  | some ds =>
    rw [e] at h
    obtain ⟨a, vs, rfl, h1, r1⟩ := asL_at g r e
    have e2 := intsOf_at h
    subst e2
    rw [r1.ints] at h1
    exact ⟨a, rfl, .inl (.inl h1)⟩
theorem bls_at {z : Sit} {d : D} {v : V} {ns : List Bool} (g : Good w z) (r : Rep w z d v) (h : (asL z.S d).bind blsOf = some ns) : ∃ a, v = .ref a ∧ SqL w.K z.H a (ns.map V.bl) := by
  cases e : asL z.S d with
  | none => rw [e] at h; cases h
  | some ds =>
    rw [e] at h
    obtain ⟨a, vs, rfl, h1, r1⟩ := asL_at g r e
    have e2 := blsOf_at h
    subst e2
    rw [r1.bls] at h1
    exact ⟨a, rfl, .inl (.inl h1)⟩
theorem b_sum (hK : X.K = w.K) (hc : X.calm = true) : Bi8 X w E (.builtin "sum") dSum := by
  have q := cr_sum hc
  rw [hK] at q
  refine ⟨_, q, fun z as xs Q g rp o => ?_⟩
  unfold dSum at o
  split at o
  · obtain ⟨v, rfl, r⟩ := RepL.one rp
    split at o
    · rename_i h
      obtain ⟨a, rfl, h1⟩ := ints_at g r h
      exact ⟨a, _, rfl, h1, o.okv g rep_int⟩
    · exact o.elim
  · exact o.elim
theorem b_all (hK : X.K = w.K) (hc : X.calm = true) : Bi8 X w E (.builtin "all") dAll := by
  have q := cr_all hc
  rw [hK] at q
  refine ⟨_, q, fun z as xs Q g rp o => ?_⟩
  unfold dAll at o
  split at o
  · obtain ⟨v, rfl, r⟩ := RepL.one rp
    split at o
    · rename_i h
      obtain ⟨a, rfl, h1⟩ := bls_at g r h
      exact ⟨a, _, rfl, h1, o.okv g rep_bl⟩
    · exact o.elim
  · exact o.elim
theorem b_any (hK : X.K = w.K) (hc : X.calm = true) : Bi8 X w E (.builtin "any") dAny := by
  have q := cr_any hc
  rw [hK] at q
  refine ⟨_, q, fun z as xs Q g rp o => ?_⟩
  unfold dAny at o
  split at o
  · obtain ⟨v, rfl, r⟩ := RepL.one rp
    split at o
    · rename_i h
      obtain ⟨a, rfl, h1⟩ := bls_at g r h
      exact ⟨a, _, rfl, h1, o.okv g rep_bl⟩
    · exact o.elim
  · exact o.elim
/-- repr -/
def dRepr (as : List D) : M D := fun S => match as with
  | [d] => match pyOf S d with
    | some p => if p.showable = true ∧ p.hasDict = false ∧ p.shown.length ≤ big ∧ p.depth ≤ 40 then .ok (.str p.shown) S else .bad
    | none => .bad
  | _ => .bad
theorem b_repr (hK : X.K = w.K) {k : Nat} (hgd : X.A.guards = some []) (hr : Room k X.A) : Bi8 X w E (.builtin "repr") dRepr := by
  have q := call_reprD hgd hr
  rw [hK] at q
  refine ⟨_, q, fun z as xs Q g rp o => ?_⟩
  unfold dRepr at o
  split at o
  · obtain ⟨v, rfl, r⟩ := RepL.one rp
    split at o
    · rename_i h
      split at o
      · rename_i h2
        exact ⟨v, _, big, rfl, pyOf_dp g r h, ⟨h2.1, h2.2.1, h2.2.2.1, h2.2.2.2⟩, big_le (Nat.le_refl _), o.okv g rep_str⟩
      · exact o.elim
    · exact o.elim
  · exact o.elim
end
end Ol

namespace Ol
open PySem PySem.Spec PyProof.Rows L2
/-! ### what is never reached -/
section
variable {X : Cx} {w : Wd} {E : XK} {e : Expr} {st : Stmt} {tg : Expr}
theorem pm_bad : PM X w E e (fun _ => M.bad) := ⟨fun _ _ _ _ _ _ ⟨_, _, _, _, _, o⟩ => o.elim⟩
theorem pmt_bad : PMT X w E e (fun _ => M.bad) := ⟨fun _ _ _ _ _ _ ⟨_, _, _, _, _, o⟩ => o.elim⟩
theorem pms_bad : PMS X w E st (fun _ => M.bad) := ⟨fun _ _ _ _ _ _ ⟨_, _, _, _, _, o⟩ => o.elim⟩
theorem pmi_bad : PMI X w E tg e (fun _ => M.bad) := ⟨fun _ _ _ _ _ _ ⟨_, _, _, _, _, o⟩ => o.elim⟩
end
/-! ### own comparisons -/
def gAlt2 (g g' : D → D → M D) : D → D → M D := fun a b S => match g a b S with
  | .bad => g' a b S
  | r => r
section
variable {X : Cx} {w : Wd} {E : XK}
theorem Does2.or {r r' : R2} {g g' : D → D → M D} (h : Does2 w E r g) (h' : Does2 w E r' g') : Does2 w E (alt2 r r') (gAlt2 g g') := fun z a b x y Q G ra rb o => by
  unfold gAlt2 at o
  cases e : g a b z.S with
  | ok a S => rw [e] at o; exact .inl (h z _ _ _ _ Q G ra rb (by rw [e]; exact o))
  | er c fs S => rw [e] at o; exact .inl (h z _ _ _ _ Q G ra rb (by rw [e]; exact o))
  | bad => rw [e] at o; exact .inr (h' z _ _ _ _ Q G ra rb o)
theorem Cmp8.or {op : CmpOp} {g g' : D → D → M D} (C : Cmp8 X w E op g) (C' : Cmp8 X w E op g') : Cmp8 X w E op (gAlt2 g g') := by
  obtain ⟨r, h1, h2⟩ := C.ex
  obtain ⟨r', h1', h2'⟩ := C'.ex
  exact ⟨_, opr_or h1 h1', h2.or h2'⟩
/-- what stands at the right of an own comparison -/
def NfOk (w : Wd) (c : Nat) (ts : List Tg) : Prop := ∀ t ∈ ts, PySem.W.notFirst w.K (w.cm c) (t.val w) = true
theorem nf_nil {c : Nat} : NfOk w c [] := fun _ h => by cases h
theorem nf_self {c : Nat} {ts : List Tg} (r : NfOk w c ts) : NfOk w c (.own c :: ts) := fun d q => by
  rcases List.mem_cons.mp q with e | q
  · rw [e]; exact notFirst_self
  · exact r d q
theorem nf_cons {c : Nat} {t : Tg} {ts : List Tg} (h : PySem.W.subIn w.K (t.val w) (.ref (w.cm c)) = some false) (r : NfOk w c ts) : NfOk w c (t :: ts) := fun d q => by
  rcases List.mem_cons.mp q with e | q
  · rw [e]; exact nf_of h
  · exact r d q
def dOwn (c : Nat) (own : List Nat) (ts : List Tg) (G : List D → M D) (a b : D) : M D := fun S => match asI S a, tagOf S b with
  | some (c', _), some t => if c' = c ∧ t ∈ ts ∧ okTag own t = true then G [a, b] S else .bad
  | _, _ => .bad
def dOwnB (c : Nat) (own : List Nat) (ts : List Tg) (G : List D → M D) (neg : Bool) (a b : D) : M D := fun S => match asI S a, tagOf S b with
  | some (c', _), some t => if c' = c ∧ t ∈ ts ∧ okTag own t = true then ((G [a, b]).bnd fun r => match r with | .bl k => M.ret (.bl (neg ^^ k)) | _ => M.bad) S else .bad
  | _, _ => .bad
variable {k c : Nat} {f : Addr} {fd : FuncData} {ps : List Str} {G : List D → M D} {own : List Nat} {ts : List Tg}
theorem c_own {op : CmpOp} (hK : X.K = w.K) (hop : ∀ a b, compareOp op a b = richCompare op a b) (R : CmpOf X.K (w.cm c) op f) (F : FnOk X.prog X.w X.K X.mg X.base (L2.CX X.prog X.w) k f fd ps (spM w 2 G)) (ar : Ar 2 G) (hr : Room k X.A) (hb : L2.Binds X.K fd ps []) (hx : Passes (L2.CX X.prog X.w) X E) (T : IsOk w own) (N : NfOk w c ts) : Cmp8 X w E op (dOwn c own ts G) := by
  have q := op_cmpO hop R F hr hb hx
  rw [hK] at q
  refine ⟨_, q, fun z a b x y Q g ra rb o => ?_⟩
  unfold dOwn at o
  split at o
  · rename_i h1 h2
    split at o
    · rename_i h
      obtain ⟨rfl, h3, h4⟩ := h
      obtain ⟨p, dx, us, rfl, hH, rf⟩ := asI_at g ra h1
      exact ⟨p, dx, us, _, rfl, hH, tag_at T g rb h2 h4, N _ h3, sp_of ar g (RepL.cons ra (RepL.cons rb RepL.nil)) o⟩
    · exact o.elim
  · exact o.elim
theorem c_ownNe (hK : X.K = w.K) (R : NeOf X.K (w.cm c) f) (F : FnOk X.prog X.w X.K X.mg X.base (L2.CX X.prog X.w) k f fd ps (spM w 2 G)) (ar : Ar 2 G) (hr : Room (k + 1) X.A) (hb : L2.Binds X.K fd ps []) (hx : Passes (L2.CX X.prog X.w) X E) (T : IsOk w own) (N : NfOk w c ts) : Cmp8 X w E .NotEq (dOwnB c own ts G true) := by
  have q := op_neO R F hr hb hx
  rw [hK] at q
  refine ⟨_, q, fun z a b x y Q g ra rb o => ?_⟩
  unfold dOwnB at o
  split at o
  · rename_i h1 h2
    split at o
    · rename_i h
      obtain ⟨rfl, h3, h4⟩ := h
      obtain ⟨p, dx, us, rfl, hH, rf⟩ := asI_at g ra h1
      refine ⟨p, dx, us, _, rfl, hH, tag_at T g rb h2 h4, N _ h3, sp_of ar g (RepL.cons ra (RepL.cons rb RepL.nil)) ((Out.bnd o).imp fun d z1 x1 g1 o1 v rv => ?_)⟩
      split at o1
      · rw [Rep] at rv
        exact ⟨_, rv, by simpa using o1.v g1 rep_bl⟩
      · exact o1.elim
    · exact o.elim
  · exact o.elim
/-- x in an own thing -/
def dInO (c : Nat) (G : List D → M D) (neg : Bool) (x o : D) : M D := fun S => match asI S o with
  | some (c', _) => if c' = c then ((G [o, x]).bnd fun r => match r with | .bl k => M.ret (.bl (neg ^^ k)) | _ => M.bad) S else .bad
  | none => .bad
theorem c_inO (R : Meth X.K (w.cm c) "__contains__" f) (F : FnOk X.prog X.w X.K X.mg X.base (L2.CX X.prog X.w) k f fd ps (spM w 2 G)) (ar : Ar 2 G) (hr : Room k X.A) (hb : L2.Binds X.K fd ps []) (hx : Passes (L2.CX X.prog X.w) X E) : Cmp8 X w E .In (dInO c G false) := by
  refine ⟨_, op_inO R F hr hb hx, fun z a b x y Q g ra rb o => ?_⟩
  unfold dInO at o
  split at o
  · rename_i h1
    split at o
    · rename_i h
      subst h
      obtain ⟨p, dx, us, rfl, hH, rf⟩ := asI_at g rb h1
      refine ⟨p, dx, us, rfl, hH, sp_of ar g (RepL.cons rb (RepL.cons ra RepL.nil)) ((Out.bnd o).imp fun d z1 x1 g1 o1 v rv => ?_)⟩
      split at o1
      · rw [Rep] at rv
        exact ⟨_, rv, by simpa using o1.v g1 rep_bl⟩
      · exact o1.elim
    · exact o.elim
  · exact o.elim
theorem c_notInO (R : Meth X.K (w.cm c) "__contains__" f) (F : FnOk X.prog X.w X.K X.mg X.base (L2.CX X.prog X.w) k f fd ps (spM w 2 G)) (ar : Ar 2 G) (hr : Room k X.A) (hb : L2.Binds X.K fd ps []) (hx : Passes (L2.CX X.prog X.w) X E) : Cmp8 X w E .NotIn (dInO c G true) := by
  refine ⟨_, op_notInO R F hr hb hx, fun z a b x y Q g ra rb o => ?_⟩
  unfold dInO at o
  split at o
  · rename_i h1
    split at o
    · rename_i h
      subst h
      obtain ⟨p, dx, us, rfl, hH, rf⟩ := asI_at g rb h1
      refine ⟨p, dx, us, rfl, hH, sp_of ar g (RepL.cons rb (RepL.cons ra RepL.nil)) ((Out.bnd o).imp fun d z1 x1 g1 o1 v rv => ?_)⟩
      split at o1
      · rw [Rep] at rv
        exact ⟨_, rv, by simpa using o1.v g1 rep_bl⟩
      · exact o1.elim
    · exact o.elim
  · exact o.elim
/-! ### own operators -/
structure Op8 (X : Cx) (w : Wd) (E : XK) (op : Operator) (g : D → D → M D) : Prop where
  ex : ∃ r, OpR X (binaryOp op) r ∧ Does2 w E r g
theorem Op8.or {op : Operator} {g g' : D → D → M D} (C : Op8 X w E op g) (C' : Op8 X w E op g') : Op8 X w E op (gAlt2 g g') := by
  obtain ⟨r, h1, h2⟩ := C.ex
  obtain ⟨r', h1', h2'⟩ := C'.ex
  exact ⟨_, opr_or h1 h1', h2.or h2'⟩
theorem pm_op8 {a b : Expr} {fa fb : Env8 → M D} {pos : Pos} {op : Operator} {g : D → D → M D} (C : Op8 X w E op g) (A : PM X w E a fa) (B : PM X w E b fb) : PM X w E (.BinOp a op b pos) (f2 g fa fb) := by
  obtain ⟨r, h1, h2⟩ := C.ex
  exact pm_2 (pe_op h1 A B) h2
/-- an own thing at the left, a thing of a kind at the right -/
def dOwnL (c : Nat) (T : String) (G : List D → M D) (a b : D) : M D := fun S => match asI S a, tagOf S b with
  | some (c', _), some t => if c' = c ∧ t = .ty T then G [a, b] S else .bad
  | _, _ => .bad
theorem o_ownL {op : Operator} {T : String} (hK : X.K = w.K) (R : OwnOf X.K (w.cm c) op T f) (F : FnOk X.prog X.w X.K X.mg X.base (L2.CX X.prog X.w) k f fd ps (spM w 2 G)) (ar : Ar 2 G) (hr : Room k X.A) (hb : L2.Binds X.K fd ps []) (hx : Passes (L2.CX X.prog X.w) X E) : Op8 X w E op (dOwnL c T G) := by
  have q := op_ownL R F hr hb hx
  rw [hK] at q
  refine ⟨_, q, fun z a b x y Q g ra rb o => ?_⟩
  unfold dOwnL at o
  split at o
  · rename_i h1 h2
    split at o
    · rename_i h
      obtain ⟨rfl, rfl⟩ := h
      obtain ⟨p, dx, us, rfl, hH, rf⟩ := asI_at g ra h1
      exact ⟨p, dx, us, rfl, hH, tag_at (cs := []) iso_nil g rb h2 rfl, sp_of ar g (RepL.cons ra (RepL.cons rb RepL.nil)) o⟩
    · exact o.elim
  · exact o.elim
/-- a number at the left, an own thing at the right -/
def dRefl (c : Nat) (G : List D → M D) (a b : D) : M D := fun S => match a, asI S b with
  | .int i, some (c', _) => if c' = c then G [b, .int i] S else .bad
  | _, _ => .bad
theorem o_refl {op : Operator} {id : String} (R : ReflOf X.K (w.cm c) op f) (fl : fillsNumberSlot (.type "int") op.info.2 = pure true) (sl : Slot "int" (PySem.dunder op.info.2) id) (lt : Lets id) (F : FnOk X.prog X.w X.K X.mg X.base (L2.CX X.prog X.w) k f fd ps (spM w 2 G)) (ar : Ar 2 G) (hr : Room k X.A) (hb : L2.Binds X.K fd ps []) (hx : Passes (L2.CX X.prog X.w) X E) : Op8 X w E op (dRefl c G) := by
  refine ⟨_, op_refl R fl sl lt F hr hb hx, fun z a b x y Q g ra rb o => ?_⟩
  unfold dRefl at o
  split at o
  · rename_i h1
    split at o
    · rename_i h
      subst h
      obtain ⟨p, dx, us, rfl, hH, rf⟩ := asI_at g rb h1
      have ra0 := ra
      rw [Rep] at ra
      exact ⟨_, p, dx, us, ra, rfl, hH, sp_of ar g (RepL.cons rb (RepL.cons rep_int RepL.nil)) o⟩
    · exact o.elim
  · exact o.elim
theorem o_add (hK : X.K = w.K) : Op8 X w E .Add dAdd := by
  refine ⟨_, opr_or op_add (opr_or op_add_str (opr_or op_cat op_catT)), fun z a b x y Q g ra rb o => ?_⟩
  unfold dAdd at o
  split at o
  · rw [Rep] at ra rb
    exact .inl ⟨_, _, ra, rb, o.v g rep_int⟩
  · rw [Rep] at ra rb
    split at o
    · rename_i h
      exact .inr (.inl ⟨_, _, ra, rb, big_le h, o.v g rep_str⟩)
    · exact o.elim
  · rw [Rep] at ra rb
    obtain ⟨p, vs, e1, _, h1, r1⟩ := ra
    obtain ⟨q, us, e2, _, h2, r2⟩ := rb
    split at o
    · rename_i h
      rw [r1.length, r2.length] at h
      exact .inr (.inr (.inl ⟨p, q, vs, us, e1, e2, h1, h2, big_le h, new_lst g (r1.append r2) o⟩))
    · exact o.elim
  · obtain ⟨p, vs, e1, h1, r1⟩ := asT_at ra rfl
    obtain ⟨q, us, e2, h2, r2⟩ := asT_at rb rfl
    split at o
    · rename_i h
      obtain ⟨n1, n2, h⟩ := h
      rw [r1.length, r2.length] at h
      have m1 : vs ≠ [] := fun e => n1 (List.length_eq_zero_iff.mp (by rw [r1.length, e]; rfl))
      have m2 : us ≠ [] := fun e => n2 (List.length_eq_zero_iff.mp (by rw [r2.length, e]; rfl))
      rw [← hK] at h1 h2
      exact .inr (.inr (.inr ⟨p, q, vs, us, e1, e2, h1, h2, m1, big_le h, fun e => absurd e m2, fun _ => new_tup g (r1.append r2) o⟩))
    · exact o.elim
  · exact o.elim
/-- str(..) of an own thing -/
def dStrO (c : Nat) (G : List D → M D) (as : List D) : M D := fun S => match as with
  | [a] => (match asI S a with
    | some (c', _) => if c' = c then ((G [a]).bnd fun r => match r with | .str s => M.ret (.str s) | _ => M.bad) S else .bad
    | none => .bad)
  | _ => .bad
theorem b_strO (R : Meth X.K (w.cm c) "__str__" f) (F : FnOk X.prog X.w X.K X.mg X.base (L2.CX X.prog X.w) k f fd ps (spM w 1 G)) (ar : Ar 1 G) (hr : Room (k + 2) X.A) (hb : L2.Binds X.K fd ps []) (hx : Passes (L2.CX X.prog X.w) X E) : Bi8 X w E (.type "str") (dStrO c G) := by
  refine ⟨_, call_strO R F hr hb hx, fun z as xs Q g rp o => ?_⟩
  unfold dStrO at o
  split at o
  · obtain ⟨v, rfl, r⟩ := RepL.one rp
    split at o
    · rename_i h1
      split at o
      · rename_i h
        subst h
        obtain ⟨p, dx, us, rfl, hH, rf⟩ := asI_at g r h1
        refine ⟨p, dx, us, rfl, hH, sp_of ar g rp ((Out.bnd o).imp fun d z1 x1 g1 o1 v rv => ?_)⟩
        split at o1
        · rw [Rep] at rv
          exact ⟨_, rv, o1.v g1 rep_str⟩
        · exact o1.elim
      · exact o.elim
    · exact o.elim
  · exact o.elim
end
/-! ### texts -/
def strsOf : List D → Option (List Str)
  | [] => some []
  | .str i :: ds => (strsOf ds).map (i :: ·)
  | _ :: _ => none
theorem strsOf_at : ∀ {ds : List D} {ns : List Str}, strsOf ds = some ns → ds = ns.map D.str
  | [], _, h => by cases h; rfl
  | .str i :: ds, ns, h => by
    unfold strsOf at h
    rw [Option.map_eq_some_iff] at h
    obtain ⟨ms, h, rfl⟩ := h
    rw [strsOf_at h]; rfl
  | .non :: _, _, h | .int _ :: _, _, h | .bl _ :: _, _, h | .lst _ :: _, _, h | .tup _ :: _, _, h | .dct _ :: _, _, h | .ins _ _ :: _, _, h | .err _ _ :: _, _, h | .cls _ :: _, _, h | .ty _ :: _, _, h | .loc _ :: _, _, h | .scr _ :: _, _, h => by cases h
theorem strsOf_map (ns : List Str) : strsOf (ns.map D.str) = some ns := by
  induction ns with
  | nil => rfl
  | cons n r ih => rw [List.map_cons, strsOf, ih]; rfl
def dJoin (a b : D) : M D := fun S => match a, (asSq S b).bind strsOf with
  | .str s, some ys => if (ys.map (·.length)).sum + ys.length * s.length ≤ big then .ok (.str (Txt.join s ys)) S else .bad
  | _, _ => .bad
def dSplit (a b : D) : M D := match a, b with
  | .str s, .str t => if (t.length == 0) = false ∧ s.length + 2 ≤ big then M.ret (.lst ((Txt.split s t).map .str)) else M.bad
  | _, _ => M.bad
section
variable {X : Cx} {w : Wd} {E : XK} {o e : Expr} {fo fe : Env8 → M D} {apos pos : Pos}
theorem pm_join (hK : X.K = w.K) (A : PM X w E o fo) (B : PM X w E e fe) (hs : starEach [e] X.env = [(false, eval e X.env)] := by rfl) (hbase : attributeBase o "join" X.env (eval o X.env) = eval o X.env := by rfl) (hline : (apos.endLine == pos.line) = true := by rfl) :
    PM X w E (.Call (.Attribute o "join" apos) [e] [] pos) (fun env => (fo env).bnd fun a => match a with | .str s => (fe env).bnd fun b => dJoin (.str s) b | _ => M.bad) := by
  refine (pe_join A B hs hbase hline).wk fun σ H Q ⟨env, z, eH, G, re, o⟩ => ⟨env, z, eH, G, re, (Out.bnd o).imp fun d z1 x1 g1 o1 v rv => ?_⟩
  split at o1
  · rename_i s
    rw [Rep] at rv
    refine ⟨⟨s, rv⟩, env, z1, rfl, g1, re.mono x1.vx, (Out.bnd o1).imp fun d z2 x2 g2 o2 u ru => ?_⟩
    unfold dJoin at o2
    split at o2
    · rename_i s' ys h0 h
      cases h0
      split at o2
      · rename_i hb
        cases hh : asSq z2.S d with
        | none => rw [hh] at h; cases h
        | some ds =>
          rw [hh] at h
          have e2 := strsOf_at h
          subst e2
          obtain ⟨a, vs, rfl, h1, r1⟩ := asSq_at g2 ru hh
          rw [r1.strs, ← hK] at h1
          exact ⟨_, a, ys, rv, rfl, h1.symm, Nat.le_trans hb (by decide), o2.okv g2 rep_str⟩
      · exact o2.elim
    · exact o2.elim
  · exact o1.elim
theorem pm_split (A : PM X w E o fo) (B : PM X w E e fe) (hs : starEach [e] X.env = [(false, eval e X.env)] := by rfl) (hbase : attributeBase o "split" X.env (eval o X.env) = eval o X.env := by rfl) (hline : (apos.endLine == pos.line) = true := by rfl) :
    PM X w E (.Call (.Attribute o "split" apos) [e] [] pos) (fun env => (fo env).bnd fun a => match a with | .str s => (fe env).bnd fun b => dSplit (.str s) b | _ => M.bad) := by
  refine (pe_split A B hs hbase hline).wk fun σ H Q ⟨env, z, eH, G, re, o⟩ => ⟨env, z, eH, G, re, (Out.bnd o).imp fun d z1 x1 g1 o1 v rv => ?_⟩
  split at o1
  · rename_i s
    rw [Rep] at rv
    refine ⟨⟨s, rv⟩, env, z1, rfl, g1, re.mono x1.vx, (Out.bnd o1).imp fun d z2 x2 g2 o2 u ru => ?_⟩
    cases d with
    | str t =>
      unfold dSplit at o2
      dsimp only at o2
      split at o2
      · rename_i hb
        rw [Rep] at ru
        subst ru
        exact ⟨_, _, rv, rfl, hb.1, big_le hb.2, new_lst g2 (RepL.mkStrs _) o2⟩
      · exact o2.elim
    | _ => exact (show False from o2).elim
  · exact o1.elim
/-! f-texts -/
def dFmt : D → M D
  | .str s => if s.length ≤ big then M.ret (.str s) else M.bad
  | .int i => if i.natAbs.log2 < 1920 then M.ret (.str (toString i)) else M.bad
  | _ => M.bad
theorem pm_fmt (A : PM X w E e fe) : PM X w E (.FormattedValue e (-1) none pos) (f1 dFmt fe) := (pe_fmt A).wk fun σ H Q ⟨env, z, eH, G, re, o⟩ => ⟨env, z, eH, G, re, (Out.bnd o).imp fun d z1 x1 g1 o1 v rv => by
  unfold dFmt at o1
  split at o1
  · rw [Rep] at rv
    split at o1
    · rename_i h
      exact .inl ⟨_, rv, big_le h, o1.v g1 rep_str⟩
    · exact o1.elim
  · rw [Rep] at rv
    split at o1
    · rename_i h
      exact .inr ⟨_, rv, h, o1.v g1 rep_str⟩
    · exact o1.elim
  · exact o1.elim⟩
def fJs : List (Env8 → M D) → Str → Env8 → M D
  | [], acc, _ => M.ret (.str acc)
  | f :: fs, acc, env => (f env).bnd fun d => match d with
    | .str s => if (acc ++ s).length ≤ big then fJs fs (acc ++ s) env else M.bad
    | _ => M.bad
inductive PMJ (X : Cx) (w : Wd) (E : XK) : List Expr → List (Env8 → M D) → Prop where
  | nil : PMJ X w E [] []
  | cons {e : Expr} {f : Env8 → M D} {es : List Expr} {fs : List (Env8 → M D)} (h : PM X w E e f) (r : PMJ X w E es fs) : PMJ X w E (e :: es) (f :: fs)
theorem PMJ.pj {es : List Expr} {fs : List (Env8 → M D)} (h : PMJ X w E es fs) : PJ X es (fs.map (tM w E)) := by
  induction h with
  | nil => exact .nil
  | cons h r ih => exact .cons h ih
theorem js_at {Q : Str → Hp → Prop} {σ : L2.St} : ∀ {fs : List (Env8 → M D)} {acc : Str} {z : Sit} {env : Env8}, Good w z → REnv w z env σ → Out w z (fJs fs acc env z.S) (fun d z' => ∀ s, d = .str s → Q s z'.H) E → tJs (fs.map (tM w E)) acc σ z.H Q
  | [], acc, z, env, g, re, o => (Out.ret o g rfl) acc rfl
  | f :: fs, acc, z, env, g, re, o => ⟨env, z, rfl, g, re, (Out.bnd o).imp fun d z1 x1 g1 o1 v rv => by
    split at o1
    · rename_i s
      rw [Rep] at rv
      split at o1
      · rename_i h
        exact ⟨s, rv, big_le h, js_at g1 (re.mono x1.vx) o1⟩
      · exact o1.elim
    · exact o1.elim⟩
theorem pm_joined {v1 v2 : Expr} {rest : List Expr} {fs : List (Env8 → M D)} (h : PMJ X w E (v1 :: v2 :: rest) fs) : PM X w E (.JoinedStr (v1 :: v2 :: rest) pos) (fJs fs Str.empty) := (pe_joined h.pj).wk fun σ H Q ⟨env, z, eH, G, re, o⟩ => by
  subst eH
  exact js_at G re (o.imp fun d z1 _ _ q s e => q _ (by rw [e]; exact rep_str))
end
end Ol

namespace Ol
open PySem PySem.Spec PyProof.Rows L2
/-! ### errors -/
def sRaise1 (c : Nat) (f : Str) (fs : Env8 → M (List D)) : Env8 → M Fl := fun env => (fs env).bnd fun ds => match ds with
  | [d] => fun S => .er c [(f, d)] S
  | _ => M.bad
def sRaise2 (c : Nat) (f g : Str) (fs : Env8 → M (List D)) : Env8 → M Fl := fun env => (fs env).bnd fun ds => match ds with
  | [d, e] => fun S => .er c [(g, e), (f, d)] S
  | _ => M.bad
section
variable {X : Cx} {w : Wd} {E : XK} {k c : Nat} {fI : Addr} {fd : FuncData} {ps : List Str} {x f g : Str} {p pos pos' : Pos} {e : Expr} {es : List Expr} {fs : Env8 → M (List D)}
theorem rz_of {z : Sit} {fs : List (Str × D)} {us : List (Str × V)} {P : Fl → Sit → Prop} (G : Good w z) (r : RepF w z fs us) (o : Out w z (.er c fs z.S) P E) : Rz (w.cm c) us z.H E := fun d H' hd s hx => by
  have x := Ex.more s
  exact o (z.on H') d us rfl x (G.more s) (r.mono x.vx) hx (fun l => G.fresh hd l)
theorem pms_raise1 (hc : X.calm = true) (tk : Takes X (fun cls d _ H => E cls d H)) (T : ErrT X.K (w.cm c) fI) (F : FnOk X.prog X.w X.K X.mg X.base CX0 k fI fd ps (spErr1 (w.cm c) f)) (hr : Room (k + 1) X.A) (hb : L2.Binds X.K fd ps []) (hg : Gl X x) (hm : X.mg x = some (.ref (w.cm c))) (A : PMA X w E (e :: es) fs)
    (hdb : (x == ("__debug__" : Str)) = false := by decide) (he : starEach (e :: es) X.env = (false, eval e X.env) :: starEach es X.env := by rfl) (hpl : (backTo pos (starEach es X.env)).any (·.1) = false := by rfl) :
    PMS X w E (.Raise (some (.Call (.Name x p) (e :: es) [] pos)) none pos') (sRaise1 c f fs) :=
  (ps_raise hc tk (pmk_oex T.se.oex T.iC T.tI F hr hb .nil pass0 hg hm A hdb he hpl)).wk fun De σ H ⟨env, z, eH, G, re, o⟩ => ⟨env, z, eH, G, re, (Out.bnd o).imp fun ds z1 x1 g1 o1 vs rv => by
    split at o1
    · obtain ⟨v, rfl, r⟩ := RepL.one rv
      exact raise1 (rz_of g1 (by rw [RepF]; exact ⟨v, [], rfl, r, by rw [RepF]⟩) o1)
    · exact o1.elim⟩
theorem pms_raise2 (hc : X.calm = true) (tk : Takes X (fun cls d _ H => E cls d H)) (T : ErrT X.K (w.cm c) fI) (F : FnOk X.prog X.w X.K X.mg X.base CX0 k fI fd ps (spErr2 (w.cm c) f g)) (hr : Room (k + 1) X.A) (hb : L2.Binds X.K fd ps []) (hg : Gl X x) (hm : X.mg x = some (.ref (w.cm c))) (A : PMA X w E (e :: es) fs)
    (hdb : (x == ("__debug__" : Str)) = false := by decide) (he : starEach (e :: es) X.env = (false, eval e X.env) :: starEach es X.env := by rfl) (hpl : (backTo pos (starEach es X.env)).any (·.1) = false := by rfl) :
    PMS X w E (.Raise (some (.Call (.Name x p) (e :: es) [] pos)) none pos') (sRaise2 c f g fs) :=
  (ps_raise hc tk (pmk_oex T.se.oex T.iC T.tI F hr hb .nil pass0 hg hm A hdb he hpl)).wk fun De σ H ⟨env, z, eH, G, re, o⟩ => ⟨env, z, eH, G, re, (Out.bnd o).imp fun ds z1 x1 g1 o1 vs rv => by
    split at o1
    · obtain ⟨v, u, rfl, r, r'⟩ := RepL.two rv
      exact raise2 (rz_of g1 (by rw [RepF]; exact ⟨u, [(f, v)], rfl, r', by rw [RepF]; exact ⟨v, [], rfl, r, by rw [RepF]⟩⟩) o1)
    · exact o1.elim⟩
end
/-! ### super().__init__(..) of an own class -/
def runSup (n m : Nat) (cself : Nat) (fs : Env8 → M (List D)) (G : List D → M D) : List D → M D := fun ds S => if ds.length = n then (match ds with
  | .loc i :: _ => (match S[i]? with
    | some (.ins c _) => if c = cself then (((fs (ds.map some ++ List.replicate (m - n) none)).bnd fun as => (G (.loc i :: as)).bnd fun _ => M.ret .non) S) else .bad
    | _ => .bad)
  | _ => .bad) else .bad
theorem ar_runSup {n m c : Nat} {fs : Env8 → M (List D)} {G : List D → M D} : Ar n (runSup n m c fs G) := fun ds S h => by unfold runSup; rw [if_neg h]
section
variable {P : Program} {wo : World} {wd : Wd} {mg : Str → Option Value} {base : Heap} {N ps ps2 : List Str} {x qual : Str} {st : Stmt} {f f2 D0 : Addr} {fd fd2 : FuncData} {k k2 n2 c : Nat} {p0 p1 p2 p3 p4 : Pos} {e : Expr} {es : List Expr} {ar : Arg} {fs : Env8 → M (List D)} {G : List D → M D}
theorem fn_sup (F : FunS P wd.K x qual st f fd D0) (S : SupScope N ps (defScope st)) (hb : defBody st = [.Expr (.Call (.Attribute (.Call (.Name "super" p0) [] [] p1) "__init__" p2) (e :: es) [] p3) p4]) (hp : ((defArgs st).posonlyargs ++ (defArgs st).args).head? = some ar) (hn : N[0]? = some ar.arg) (hka : (defScope st).names.lookup ar.arg = some .local)
    (hms : mg "super" = none) (hop : PySem.W.nsIn wd.K cStatics "thirdparty.any" = some none) (hl : ps.length ≤ N.length)
    (F2 : FnOk P wo wd.K mg base (L2.CX P wo) k2 f2 fd2 ps2 (spM wd n2 G)) (ar2 : Ar n2 G) (hk2 : k2 ≤ k) (hb2 : L2.Binds wd.K fd2 ps2 []) (ht2 : PySem.W.isFn wd.K (.ref f2) = true) (hf2 : PySem.W.fnIn wd.K f2 = true) (SO : SupO wd.K (wd.cm c) D0 f2)
    (hbody : ∀ (cda cc : Addr) (A : Around) (outer : List Env) (s : Shared) (H : Hp) (E : XK), Room k (A.deeper (PySem.W.ksEnv qual (defScope st) s.heap.objs.size f (.ref cda) cc)) → PMA (cxS (L2.CX P wo) P wo wd.K mg base N qual (defScope st) f (.ref cda) cc A outer s H E) wd E (e :: es) fs)
    (he : ∀ env : Env, starEach (e :: es) env = (false, eval e env) :: starEach es env := by intro _; rfl) (hpl : ∀ env : Env, (backTo p3 (starEach es env)).any (·.1) = false := by intro _; rfl)
    (hev : ∀ (env : Env), ∃ pl : Sem Bool, eval (.Call (.Attribute (.Call (.Name "super" p0) [] [] p1) "__init__" p2) (e :: es) [] p3) env = (do
      let ov ← attributeBase (.Call (.Name "super" p0) [] [] p1) "__init__" env (eval (.Call (.Name "super" p0) [] [] p1) env)
      standAt p2.atName
      let (f, first) ← holding [ov] (getMethod ov "__init__" pl)
      callWith p3 f first (backTo p3 (starEach (e :: es) env)) []) := by intro _; exact ⟨_, rfl⟩)
    (hsw : ∀ env : Env, swapsWith (.Call (.Attribute (.Call (.Name "super" p0) [] [] p1) "__init__" p2) (e :: es) [] p3) none p4.line env = pure false := by intro _; rfl) :
    FnOk P wo wd.K mg base (L2.CX P wo) (k + 1) f fd ps (spM wd ps.length (runSup ps.length N.length c fs G)) := by
  refine FunS.okO F S hb hp hn hka hms hop (fun _ _ _ _ h => h.1) F2 hk2 hb2 ht2 hf2 (fun cda cc A outer s H vs Q E hr h => ?_) he hpl hev hsw
  obtain ⟨hlen, ds, z, rfl, g, r, o⟩ := h
  unfold runSup at o
  split at o
  · rename_i hd
    split at o
    · rename_i i ds'
      split at o
      · rename_i c' fs' hS
        split at o
        · rename_i hc
          subst hc
          have re := renv_start (N := N) r (by omega)
          rw [hd] at re
          rw [RepL] at r
          obtain ⟨v, vs', rfl, r1, r2⟩ := r
          have r1' := r1
          rw [Rep] at r1
          obtain ⟨a, rfl, hm⟩ := r1
          obtain ⟨dx, us, hH, rf⟩ := g.at_ _ _ _ hm hS
          refine ⟨a, _, dx, us, _, ?_, SO, hH, hbody cda cc A outer s z.H E hr, _, z, rfl, g, re, (Out.bnd o).imp fun as z1 x1 g1 o1 ws rw1 => ?_⟩
          · unfold L2.start
            rfl
          · exact sp_of ar2 g1 (RepL.cons (r1'.mono x1.vx) rw1) ((Out.bnd o1).imp fun d z2 x2 g2 o2 v rv => o2.v g2 rep_non)
        · exact o.elim
      · exact o.elim
    · exact o.elim
  · exact o.elim
end
/-! ### lists that are written -/
def sSetI (fo fi fv : Env8 → M D) : Env8 → M Fl := fun env => (fv env).bnd fun v => (fo env).bnd fun o => (fi env).bnd fun i S => match o, i with
  | .loc l, .int n => (match S[l]? with
    | some (.lst ds) => (match ixN ds.length n with | some j => .ok (.nx env) (S.set l (.lst (ds.set j v))) | none => .bad)
    | _ => .bad)
  | _, _ => .bad
def dApp (o v : D) : M D := fun S => match o with
  | .loc l => (match S[l]? with
    | some (.lst ds) => if ds.length < big then .ok .non (S.set l (.lst (ds ++ [v]))) else .bad
    | _ => .bad)
  | _ => .bad
section
variable {X : Cx} {w : Wd} {E : XK} {o i e value : Expr} {fo fi fv fe : Env8 → M D} {apos pos pos' : Pos}
theorem wr_lst {z : Sit} {l : Nat} {a : Addr} {ds ds' : List D} {vs' : List V} (g : Good w z) (hm : z.mu[l]? = some a) (hS : z.S[l]? = some (.lst ds)) (r : RepL w z ds' vs') : Ex z (z.wr l (.lst ds') (upd z.H a (.lst vs'))) ∧ Good w (z.wr l (.lst ds') (upd z.H a (.lst vs'))) := by
  have x : Ex z (z.wr l (.lst ds') (upd z.H a (.lst vs'))) := Ex.wr hm hS rfl
  exact ⟨x, g.wr hm hS rfl ⟨vs', upd_same, r.mono x.vx⟩⟩
theorem pms_setI {kk : Pos} (A : PM X w E o fo) (B : PM X w E i fi) (V8 : PM X w E value fv) (p : PS X (.Assign [.Subscript o i kk] value pos) (tAsg (tM w E fv) (gSub (tM w E fo) (tM w E fi) rSetL))) : PMS X w E (.Assign [.Subscript o i kk] value pos) (sSetI fo fi fv) := p.wk fun De σ H ⟨env, z, eH, G, re, o⟩ => ⟨env, z, eH, G, re, (Out.bnd o).imp fun d z1 x1 g1 o1 v rv =>
  ⟨env, z1, rfl, g1, re.mono x1.vx, (Out.bnd o1).imp fun d2 z2 x2 g2 o2 v2 rv2 => ⟨env, z2, rfl, g2, (re.mono x1.vx).mono x2.vx, (Out.bnd o2).imp fun d3 z3 x3 g3 o3 v3 rv3 => by
    split at o3
    · rename_i l n
      split at o3
      · rename_i ds hS
        split at o3
        · rename_i j hj
          have r2 := rv2.mono x3.vx
          rw [Rep] at r2
          obtain ⟨a, rfl, hm⟩ := r2
          rw [Rep] at rv3
          obtain ⟨vs, hH, rl⟩ := g3.at_ _ _ _ hm hS
          obtain ⟨x4, g4⟩ := wr_lst (ds' := ds.set j d) (vs' := vs.set j v) g3 hm hS (RepL.set ((rv.mono x2.vx).mono x3.vx) j rl)
          refine ⟨a, vs, n, j, rfl, rv3, hH, by rw [← rl.length]; exact hj, ?_⟩
          exact o3 _ rfl x4 g4 σ ((((re.mono x1.vx).mono x2.vx).mono x3.vx).mono x4.vx)
        · exact o3.elim
      · exact o3.elim
    · exact o3.elim⟩⟩⟩
def fApp (fo fe : Env8 → M D) : Env8 → M D := fun env => (fo env).bnd fun o S => match o with
  | .loc l => (match S[l]? with
    | some (.lst _) => ((fe env).bnd fun v => dApp (.loc l) v) S
    | _ => .bad)
  | _ => .bad
theorem pm_append (hK : X.K = w.K) (p : PE X e (tBM X.K "list" rAppend (tM w E fo) (tMA w E (fCons fe fNil)))) : PM X w E e (fApp fo fe) := by
  rw [hK] at p
  refine p.wk fun σ H Q ⟨env, z, eH, G, re, o⟩ => ⟨env, z, eH, G, re, (Out.bnd o).imp fun d z1 x1 g1 o1 v rv => ?_⟩
  split at o1
  · rename_i l
    split at o1
    · rename_i ds hS
      have rv0 := rv
      rw [Rep] at rv
      obtain ⟨a, rfl, hm⟩ := rv
      obtain ⟨vs, hH, rl⟩ := g1.at_ _ _ _ hm hS
      refine ⟨.inl ⟨rfl, vs, .inl (.inl hH)⟩, env, z1, rfl, g1, re.mono x1.vx, ?_⟩
      unfold fCons fNil
      have o2 := Out.bnd o1
      cases h : fe env z1.S with
      | bad => rw [h] at o2; exact o2.elim
      | er c fs S => rw [h] at o2; unfold M.bnd; rw [h]; exact o2
      | ok y S =>
        rw [h] at o2
        unfold M.bnd M.ret
        rw [h]
        intro z2 e2 x2 g2 vs2 rvs
        obtain ⟨u, rfl, ru⟩ := RepL.one rvs
        have o3 := o2 z2 e2 x2 g2
        unfold dApp at o3
        dsimp only at o3
        split at o3
        · rename_i ds2 hS2
          split at o3
          · rename_i hb
            obtain ⟨vs3, hH3, rl3⟩ := g2.at_ _ _ _ (x2.pre _ _ hm) hS2
            obtain ⟨x4, g4⟩ := wr_lst (ds' := ds2 ++ [y]) (vs' := vs3 ++ [u]) g2 (x2.pre _ _ hm) hS2 (rl3.append (RepL.cons ru RepL.nil))
            refine ⟨a, vs3, u, rfl, rfl, hH3, Nat.lt_of_lt_of_le (by rw [← rl3.length]; exact hb) (by decide), ?_⟩
            exact o3 _ rfl x4 g4 _ rep_non
          · exact o3.elim
        · exact o3.elim
    · exact o1.elim
  · exact o1.elim
end
/-! ### enumerate, zip -/
def dEnum (as : List D) : M (List D) := match as with
  | [.lst ds] => M.ret (ds.zipIdx.map fun p => .tup [.int (p.2 : Nat), p.1])
  | _ => M.bad
def dZip (as : List D) : M (List D) := match as with
  | [.lst ds, .lst es] => M.ret ((ds.zip es).map fun p => .tup [p.1, p.2])
  | _ => M.bad
section
variable {X : Cx} {w : Wd} {E : XK} {e e2 : Expr} {fs : Env8 → M (List D)} {q pos tpos : Pos} {elts : List Expr} {kk : Nat}
theorem yl_enum {z : Sit} {ds : List D} {p : Addr} (r : Rep w z (.lst ds) (.ref p)) : Yl w (Ite w.K p) z (ds.zipIdx.map fun q => .tup [.int (q.2 : Nat), q.1]) := fun z1 x g => by
  have r1 := r.mono x
  rw [Rep] at r1
  obtain ⟨a, vs, e, _, h, rl⟩ := r1
  cases e
  have q : SqL w.K z1.H p vs := .inl (.inl h)
  refine ⟨fun i d hd => ?_, vs, q, by simp [rl.length]⟩
  rw [List.getElem?_map] at hd
  cases hz : ds.zipIdx[i]? with
  | none => rw [hz] at hd; cases hd
  | some pr =>
    rw [hz] at hd
    cases hd
    rw [List.getElem?_zipIdx, Option.map_eq_some_iff] at hz
    obtain ⟨d, hd, rfl⟩ := hz
    obtain ⟨v, h1, h2⟩ := rl.get hd
    refine ⟨⟨vs, v, q, h1⟩, fun y H' hy => ?_⟩
    obtain ⟨T, x', rfl, hT, rfl, hy⟩ := hy
    have e3 := hy vs q
    rw [h1] at e3
    cases e3
    have s := Same.new (o := .tup [.int (i : Nat), v]) hT
    refine ⟨z1.on (upd z1.H T (.tup [.int (i : Nat), v])), rfl, rfl, Ex.more s, g.more s, ?_⟩
    rw [Rep]
    exact ⟨T, _, rfl, .inl ⟨g.fresh hT, .inl upd_same⟩, RepL.cons (by simp; exact rep_int) (RepL.cons (h2.mono (Ex.more s).vx) RepL.nil)⟩
theorem yl_zip {z : Sit} {ds es : List D} {p p' : Addr} (r : Rep w z (.lst ds) (.ref p)) (r' : Rep w z (.lst es) (.ref p')) : Yl w (Itz w.K p p') z ((ds.zip es).map fun q => .tup [q.1, q.2]) := fun z1 x g => by
  have r1 := r.mono x
  rw [Rep] at r1
  obtain ⟨a, vs, e, _, h, rl⟩ := r1
  cases e
  have r2 := r'.mono x
  rw [Rep] at r2
  obtain ⟨a, us, e, _, h', rl'⟩ := r2
  cases e
  have q : SqL w.K z1.H p vs := .inl (.inl h)
  have q' : SqL w.K z1.H p' us := .inl (.inl h')
  refine ⟨fun i d hd => ?_, vs, us, q, q', by simp [rl.length, rl'.length]; omega⟩
  rw [List.getElem?_map] at hd
  cases hz : (ds.zip es)[i]? with
  | none => rw [hz] at hd; cases hd
  | some pr =>
    rw [hz] at hd
    cases hd
    rw [List.getElem?_zip_eq_some] at hz
    obtain ⟨v, h1, h2⟩ := rl.get hz.1
    obtain ⟨u, h3, h4⟩ := rl'.get hz.2
    refine ⟨⟨vs, us, v, u, q, q', h1, h3⟩, fun y H' hy => ?_⟩
    obtain ⟨T, x', y', rfl, hT, rfl, hy, hy'⟩ := hy
    have e3 := hy vs q
    rw [h1] at e3
    cases e3
    have e4 := hy' us q'
    rw [h3] at e4
    cases e4
    have s := Same.new (o := .tup [v, u]) hT
    refine ⟨z1.on (upd z1.H T (.tup [v, u])), rfl, rfl, Ex.more s, g.more s, ?_⟩
    rw [Rep]
    exact ⟨T, _, rfl, .inl ⟨g.fresh hT, .inl upd_same⟩, RepL.cons (h2.mono (Ex.more s).vx) (RepL.cons (h4.mono (Ex.more s).vx) RepL.nil)⟩
theorem pmi_enum (hK : X.K = w.K) (hg : Gl X "enumerate") (hm : X.mg "enumerate" = none) (A : PMA X w E [e] fs) (hs : starEach [e] X.env = [(false, eval e X.env)] := by rfl) : PMI X w E (.Tuple elts kk tpos) (.Call (.Name "enumerate" q) [e] [] pos) (f1 dEnum fs) := by
  have p := pi_enum (elts := elts) (kk := kk) (tpos := tpos) (p := q) (pos := pos) hg hm A hs
  rw [hK] at p
  refine p.wk fun σ H R ⟨env, z, eH, G, re, o⟩ => ⟨env, z, eH, G, re, (Out.bnd o).imp fun ds z1 x1 g1 o1 vs rv => ?_⟩
  unfold dEnum at o1
  split at o1
  · obtain ⟨v, rfl, r⟩ := RepL.one rv
    have r0 := r
    rw [Rep] at r
    obtain ⟨a, us, rfl, _, h, rl⟩ := r
    exact ⟨a, us, rfl, .inl (.inl h), (Out.ret o1 g1 rfl) _ (yl_enum r0)⟩
  · exact o1.elim
theorem pmi_zip (hK : X.K = w.K) (hg : Gl X "zip") (hm : X.mg "zip" = none) (A : PMA X w E [e, e2] fs) (hs : starEach [e, e2] X.env = (false, eval e X.env) :: starEach [e2] X.env := by rfl) (hpl : (backTo pos (starEach [e2] X.env)).any (·.1) = false := by rfl) : PMI X w E (.Tuple elts kk tpos) (.Call (.Name "zip" q) [e, e2] [] pos) (f1 dZip fs) := by
  have p := pi_zip (elts := elts) (kk := kk) (tpos := tpos) (p := q) (pos := pos) hg hm A hs hpl
  rw [hK] at p
  refine p.wk fun σ H R ⟨env, z, eH, G, re, o⟩ => ⟨env, z, eH, G, re, (Out.bnd o).imp fun ds z1 x1 g1 o1 vs rv => ?_⟩
  unfold dZip at o1
  split at o1
  · obtain ⟨v, u, rfl, r, r'⟩ := RepL.two rv
    have r0 := r
    have r0' := r'
    rw [Rep] at r r'
    obtain ⟨a, us, rfl, _, h, rl⟩ := r
    obtain ⟨b, ws, rfl, _, h', rl'⟩ := r'
    exact ⟨a, b, us, ws, rfl, .inl (.inl h), .inl (.inl h'), (Out.ret o1 g1 rfl) _ (yl_zip r0 r0')⟩
  · exact o1.elim
end
end Ol

namespace Ol
open PySem PySem.Spec PyProof.Rows L2
/-! ### running the functions -/
section
variable {α β : Type}
def bd (r : Res α) (k : α → M β) : Res β := match r with
  | .ok a S => k a S
  | .er c fs S => .er c fs S
  | .bad => .bad
theorem bd_ok {a : α} {S : Store} {k : α → M β} : bd (.ok a S) k = k a S := rfl
theorem bd_er {c : Nat} {fs : List (Str × D)} {S : Store} {k : α → M β} : bd (.er c fs S) k = .er c fs S := rfl
theorem bd_bad {k : α → M β} : bd .bad k = .bad := rfl
theorem bnd_bd {m : M α} {k : α → M β} {S : Store} : M.bnd m k S = bd (m S) k := rfl
theorem ret_ap {a : α} {S : Store} : M.ret a S = .ok a S := rfl
theorem bad_ap {S : Store} : (M.bad : M α) S = .bad := rfl
theorem ite_ap {c : Prop} [Decidable c] {m n : M α} {S : Store} : (if c then m else n) S = if c then m S else n S := by split <;> rfl
variable {env : Env8} {S : Store} {fa fb fc : Env8 → M D} {fs fr : Env8 → M (List D)} {p q : Env8 → M Bool} {s t : Env8 → M Fl} {d : D} {i j : Nat}
def vK : Option (Option D) → M D
  | some (some d) => M.ret d
  | _ => M.bad
theorem x_var : fVar i env S = vK env[i]? S := by
  unfold fVar
  cases env[i]? with
  | none => rfl
  | some x => cases x <;> rfl
theorem vK_some : vK (some (some d)) S = .ok d S := rfl
theorem x_c : fC d env S = .ok d S := rfl
theorem x_f1 {γ δ : Type} {g : γ → M δ} {fa : Env8 → M γ} : f1 g fa env S = bd (fa env S) g := rfl
def k_f2 {γ : Type} (g : D → D → M γ) (fb : Env8 → M D) (env : Env8) : D → M γ := fun x S1 => bd (fb env S1) (g x)
theorem ap_f2 {γ : Type} {g : D → D → M γ} {x : D} : k_f2 g fb env x S = bd (fb env S) (g x) := rfl
theorem x_f2 {γ : Type} {g : D → D → M γ} : f2 g fa fb env S = bd (fa env S) (k_f2 g fb env) := rfl
theorem x_nil : fNil env S = .ok [] S := rfl
def k_cons2 (x : D) : List D → M (List D) := fun xs S2 => .ok (x :: xs) S2
def k_cons (fr : Env8 → M (List D)) (env : Env8) : D → M (List D) := fun x S1 => bd (fr env S1) (k_cons2 x)
theorem ap_cons {x : D} : k_cons fr env x S = bd (fr env S) (k_cons2 x) := rfl
theorem ap_cons2 {x : D} {xs : List D} : k_cons2 x xs S = .ok (x :: xs) S := rfl
theorem x_cons : fCons fa fr env S = bd (fa env S) (k_cons fr env) := rfl
def k_and (q : Env8 → M Bool) (env : Env8) : Bool → M Bool := fun b S1 => if b = true then q env S1 else .ok false S1
theorem ap_and {b : Bool} : k_and q env b S = if b = true then q env S else .ok false S := rfl
theorem x_and : fAnd p q env S = bd (p env S) (k_and q env) := by
  delta k_and
  unfold fAnd M.bnd bd
  cases p env S with
  | ok b S1 => cases b <;> rfl
  | _ => rfl
def k_or (q : Env8 → M Bool) (env : Env8) : Bool → M Bool := fun b S1 => if b = true then .ok true S1 else q env S1
theorem ap_or {b : Bool} : k_or q env b S = if b = true then .ok true S else q env S := rfl
theorem x_or : fOr p q env S = bd (p env S) (k_or q env) := by
  delta k_or
  unfold fOr M.bnd bd
  cases p env S with
  | ok b S1 => cases b <;> rfl
  | _ => rfl
def k_not : Bool → M Bool := fun b S1 => .ok (!b) S1
theorem ap_not {b : Bool} : k_not b S = .ok (!b) S := rfl
theorem x_not : fNot p env S = bd (p env S) k_not := rfl
def k_if (f g : Env8 → M α) (env : Env8) : Bool → M α := fun b S1 => if b = true then f env S1 else g env S1
theorem ap_if {f g : Env8 → M α} {b : Bool} : k_if f g env b S = if b = true then f env S else g env S := rfl
theorem x_if {f g : Env8 → M α} : fIf p f g env S = bd (p env S) (k_if f g env) := by
  delta k_if
  unfold fIf M.bnd bd
  cases p env S with
  | ok b S1 => cases b <;> rfl
  | _ => rfl
def k_andV2 (fb : Env8 → M D) (env : Env8) : Bool → M D := fun b S2 => if b = true then fb env S2 else .ok (.bl false) S2
def k_andV (fb : Env8 → M D) (env : Env8) : D → M D := fun d S1 => bd (dBool d S1) (k_andV2 fb env)
theorem ap_andV : k_andV fb env d S = bd (dBool d S) (k_andV2 fb env) := rfl
theorem ap_andV2 {b : Bool} : k_andV2 fb env b S = if b = true then fb env S else .ok (.bl false) S := rfl
theorem x_andV : fAndV fa fb env S = bd (fa env S) (k_andV fb env) := by
  delta k_andV
  delta k_andV2
  unfold fAndV M.bnd bd
  cases fa env S with
  | ok d S1 =>
    dsimp only
    cases dBool d S1 with
    | ok b S2 => cases b <;> rfl
    | _ => rfl
  | _ => rfl
def k_orV2 (fb : Env8 → M D) (env : Env8) : Bool → M D := fun b S2 => if b = true then .ok (.bl true) S2 else fb env S2
def k_orV (fb : Env8 → M D) (env : Env8) : D → M D := fun d S1 => bd (dBool d S1) (k_orV2 fb env)
theorem ap_orV : k_orV fb env d S = bd (dBool d S) (k_orV2 fb env) := rfl
theorem ap_orV2 {b : Bool} : k_orV2 fb env b S = if b = true then .ok (.bl true) S else fb env S := rfl
theorem x_orV : fOrV fa fb env S = bd (fa env S) (k_orV fb env) := by
  delta k_orV
  delta k_orV2
  unfold fOrV M.bnd bd
  cases fa env S with
  | ok d S1 =>
    dsimp only
    cases dBool d S1 with
    | ok b S2 => cases b <;> rfl
    | _ => rfl
  | _ => rfl
def k_notV2 : Bool → M D := fun b S2 => .ok (.bl (!b)) S2
def k_notV : D → M D := fun d S1 => bd (dBool d S1) k_notV2
theorem ap_notV : k_notV d S = bd (dBool d S) k_notV2 := rfl
theorem ap_notV2 {b : Bool} : k_notV2 b S = .ok (.bl (!b)) S := rfl
theorem x_notV : fNotV fa env S = bd (fa env S) k_notV := by
  delta k_notV
  delta k_notV2
  unfold fNotV M.bnd bd
  cases fa env S with
  | ok d S1 =>
    dsimp only
    cases dBool d S1 with
    | ok b S2 => rfl
    | _ => rfl
  | _ => rfl
def k_ch4 (g' : D → D → M D) (fc : Env8 → M D) (env : Env8) (y : D) : Bool → M D := fun b S4 => if b = true then bd (fc env S4) (g' y) else .ok (.bl false) S4
def k_ch3 (g' : D → D → M D) (fc : Env8 → M D) (env : Env8) (y : D) : D → M D := fun r S3 => bd (dBool r S3) (k_ch4 g' fc env y)
def k_ch2 (g g' : D → D → M D) (fc : Env8 → M D) (env : Env8) (x : D) : D → M D := fun y S2 => bd (g x y S2) (k_ch3 g' fc env y)
def k_ch1 (g g' : D → D → M D) (fb fc : Env8 → M D) (env : Env8) : D → M D := fun x S1 => bd (fb env S1) (k_ch2 g g' fc env x)
theorem ap_ch1 {g g' : D → D → M D} : k_ch1 g g' fb fc env d S = bd (fb env S) (k_ch2 g g' fc env d) := rfl
theorem ap_ch2 {g g' : D → D → M D} {x : D} : k_ch2 g g' fc env x d S = bd (g x d S) (k_ch3 g' fc env d) := rfl
theorem ap_ch3 {g' : D → D → M D} {y : D} : k_ch3 g' fc env y d S = bd (dBool d S) (k_ch4 g' fc env y) := rfl
theorem ap_ch4 {g' : D → D → M D} {y : D} {b : Bool} : k_ch4 g' fc env y b S = if b = true then bd (fc env S) (g' y) else .ok (.bl false) S := rfl
theorem x_chain {g g' : D → D → M D} : fChain g g' fa fb fc env S = bd (fa env S) (k_ch1 g g' fb fc env) := by
  delta k_ch1
  delta k_ch2
  delta k_ch3
  delta k_ch4
  unfold fChain
  rw [bnd_bd]
  congr 1
  funext x S1
  rw [bnd_bd]
  congr 1
  funext y S2
  rw [bnd_bd, bnd_bd]
  cases g x y S2 with
  | ok r S3 =>
    show bd (dBool r S3) _ = bd (dBool r S3) _
    cases dBool r S3 with
    | ok b S4 => cases b <;> rfl
    | _ => rfl
  | _ => rfl
def k_lst : List D → M D := fun ds S1 => if ds.length ≤ big then .ok (.lst ds) S1 else .bad
theorem ap_lst {ds : List D} : k_lst ds S = if ds.length ≤ big then .ok (.lst ds) S else .bad := rfl
theorem x_lst : fLst fs env S = bd (fs env S) k_lst := by
  delta k_lst
  unfold fLst M.bnd bd
  cases fs env S with
  | ok ds S1 => dsimp only; split <;> rfl
  | _ => rfl
def k_tup : List D → M D := fun ds S1 => if ds.length ≤ big then .ok (.tup ds) S1 else .bad
theorem ap_tup {ds : List D} : k_tup ds S = if ds.length ≤ big then .ok (.tup ds) S else .bad := rfl
theorem x_tup : fTup fs env S = bd (fs env S) k_tup := by
  delta k_tup
  unfold fTup M.bnd bd
  cases fs env S with
  | ok ds S1 => dsimp only; split <;> rfl
  | _ => rfl
def k_lstM : List D → M D := fun ds S1 => if ds.length ≤ big then .ok (.loc S1.length) (S1 ++ [.lst ds]) else .bad
theorem ap_lstM {ds : List D} : k_lstM ds S = if ds.length ≤ big then .ok (.loc S.length) (S ++ [.lst ds]) else .bad := rfl
theorem x_lstM : fLstM fs env S = bd (fs env S) k_lstM := by
  delta k_lstM
  unfold fLstM M.bnd bd
  cases fs env S with
  | ok ds S1 => dsimp only; split <;> rfl
  | _ => rfl
def k_sl2 (fh : Env8 → M (Option Int)) (env : Env8) (x : D) : Option Int → M D := fun l S2 => bd (fh env S2) (dSl x l)
def k_sl (fl fh : Env8 → M (Option Int)) (env : Env8) : D → M D := fun x S1 => bd (fl env S1) (k_sl2 fh env x)
theorem ap_sl {fl fh : Env8 → M (Option Int)} : k_sl fl fh env d S = bd (fl env S) (k_sl2 fh env d) := rfl
theorem ap_sl2 {fh : Env8 → M (Option Int)} {l : Option Int} : k_sl2 fh env d l S = bd (fh env S) (dSl d l) := rfl
theorem x_sl {fl fh : Env8 → M (Option Int)} : fSl fa fl fh env S = bd (fa env S) (k_sl fl fh env) := rfl
/-! statements -/
def sqK (t : Env8 → M Fl) : Fl → M Fl
  | .nx e => t e
  | r => M.ret r
theorem x_seq : sSeq s t env S = bd (s env S) (sqK t) := by
  unfold sSeq M.bnd bd
  cases s env S with
  | ok r S1 => cases r <;> rfl
  | _ => rfl
theorem sqK_nx {e : Env8} : sqK t (.nx e) S = t e S := rfl
theorem sqK_rt : sqK t (.rt d) S = .ok (.rt d) S := rfl
theorem sqK_bk {e : Env8} : sqK t (.bk e) S = .ok (.bk e) S := rfl
theorem sqK_ct {e : Env8} : sqK t (.ct e) S = .ok (.ct e) S := rfl
def k_ret : D → M Fl := fun d S1 => .ok (.rt d) S1
theorem ap_ret : k_ret d S = .ok (.rt d) S := rfl
theorem x_ret : sRet fa env S = bd (fa env S) k_ret := rfl
theorem x_retN : sRetN env S = .ok (.rt .non) S := rfl
def k_drop (env : Env8) : D → M Fl := fun _ S1 => .ok (.nx env) S1
theorem ap_drop : k_drop env d S = .ok (.nx env) S := rfl
theorem x_drop : sDrop fa env S = bd (fa env S) (k_drop env) := rfl
theorem x_next : sNext env S = .ok (.nx env) S := rfl
theorem x_brk : sBrk env S = .ok (.bk env) S := rfl
theorem x_cnt : sCnt env S = .ok (.ct env) S := rfl
def k_set (i : Nat) (env : Env8) : D → M Fl := fun d S1 => .ok (.nx (env.set i (some d))) S1
theorem ap_set : k_set i env d S = .ok (.nx (env.set i (some d))) S := rfl
theorem x_set : sAsg (.nm i) fa env S = bd (fa env S) (k_set i env) := by
  delta k_set
  unfold sAsg M.bnd bd
  cases fa env S with
  | ok d S1 => unfold bindM bindP; rfl
  | _ => rfl
def k_nx : Env8 → M Fl := fun e S2 => .ok (.nx e) S2
def k_asg (p : Pat) (env : Env8) : D → M Fl := fun d S1 => bd (bindM p d env S1) k_nx
theorem ap_nx : k_nx env S = .ok (.nx env) S := rfl
theorem ap_asg {p : Pat} : k_asg p env d S = bd (bindM p d env S) k_nx := rfl
theorem x_asg {p : Pat} : sAsg p fa env S = bd (fa env S) (k_asg p env) := rfl
def k_par (i j : Nat) (env : Env8) : List D → M Fl := fun ds S1 => match ds with | [a, b] => .ok (.nx ((env.set i (some a)).set j (some b))) S1 | _ => .bad
theorem ap_par {a b : D} : k_par i j env [a, b] S = .ok (.nx ((env.set i (some a)).set j (some b))) S := rfl
theorem x_par : sPar i j fs env S = bd (fs env S) (k_par i j env) := by
  delta k_par
  unfold sPar M.bnd bd
  cases fs env S with
  | ok ds S1 => exact match ds with | [] => rfl | [_] => rfl | [_, _] => rfl | _ :: _ :: _ :: _ => rfl
  | _ => rfl
def k_par3 (i j l : Nat) (env : Env8) : List D → M Fl := fun ds S1 => match ds with | [a, b, c] => .ok (.nx (((env.set i (some a)).set j (some b)).set l (some c))) S1 | _ => .bad
theorem ap_par3 {l : Nat} {a b c : D} : k_par3 i j l env [a, b, c] S = .ok (.nx (((env.set i (some a)).set j (some b)).set l (some c))) S := rfl
theorem x_par3 {l : Nat} : sPar3 i j l fs env S = bd (fs env S) (k_par3 i j l env) := by
  delta k_par3
  unfold sPar3 M.bnd bd
  cases fs env S with
  | ok ds S1 => exact match ds with | [] => rfl | [_] => rfl | [_, _] => rfl | [_, _, _] => rfl | _ :: _ :: _ :: _ :: _ => rfl
  | _ => rfl
def k_r1 {γ : Type} (c : Nat) (f : Str) : List D → M γ := fun ds S1 => match ds with | [d] => .er c [(f, d)] S1 | _ => .bad
theorem ap_r1 {γ : Type} {c : Nat} {f : Str} : (k_r1 c f [d] S : Res γ) = .er c [(f, d)] S := rfl
theorem x_raise1 {c : Nat} {f : Str} : sRaise1 c f fs env S = bd (fs env S) (k_r1 c f) := by
  delta k_r1
  unfold sRaise1 M.bnd bd
  cases fs env S with
  | ok ds S1 => exact match ds with | [] => rfl | [_] => rfl | _ :: _ :: _ => rfl
  | _ => rfl
def k_r2 {γ : Type} (c : Nat) (f g : Str) : List D → M γ := fun ds S1 => match ds with | [d, e] => .er c [(g, e), (f, d)] S1 | _ => .bad
theorem ap_r2 {γ : Type} {c : Nat} {f g : Str} {e : D} : (k_r2 c f g [d, e] S : Res γ) = .er c [(g, e), (f, d)] S := rfl
theorem x_raise2 {c : Nat} {f g : Str} : sRaise2 c f g fs env S = bd (fs env S) (k_r2 c f g) := by
  delta k_r2
  unfold sRaise2 M.bnd bd
  cases fs env S with
  | ok ds S1 => exact match ds with | [] => rfl | [_] => rfl | [_, _] => rfl | _ :: _ :: _ :: _ => rfl
  | _ => rfl
def k_si3 (env : Env8) (v o : D) : D → M Fl := fun i S3 => match o, i with
  | .loc l, .int n => (match S3[l]? with
    | some (.lst ds) => (match ixN ds.length n with | some j => .ok (.nx env) (S3.set l (.lst (ds.set j v))) | none => .bad)
    | _ => .bad)
  | _, _ => .bad
def k_si2 (fi : Env8 → M D) (env : Env8) (v : D) : D → M Fl := fun o S2 => bd (fi env S2) (k_si3 env v o)
def k_si1 (fo fi : Env8 → M D) (env : Env8) : D → M Fl := fun v S1 => bd (fo env S1) (k_si2 fi env v)
theorem ap_si1 {fo fi : Env8 → M D} : k_si1 fo fi env d S = bd (fo env S) (k_si2 fi env d) := rfl
theorem ap_si2 {fi : Env8 → M D} {v : D} : k_si2 fi env v d S = bd (fi env S) (k_si3 env v d) := rfl
theorem ap_si3 {v : D} {l : Nat} {n : Int} : k_si3 env v (.loc l) (.int n) S = (match S[l]? with
    | some (.lst ds) => (match ixN ds.length n with | some j => .ok (.nx env) (S.set l (.lst (ds.set j v))) | none => .bad)
    | _ => .bad) := rfl
theorem x_setI {fo fi fv : Env8 → M D} : sSetI fo fi fv env S = bd (fv env S) (k_si1 fo fi env) := rfl
def k_sf2 (cs : List Nat) (f : Str) (env : Env8) (v : D) : D → M Fl := fun o S2 => match o with
  | .loc i => (match S2[i]? with
    | some (.ins c fs) => if c ∈ cs ∧ fs.length < 1000 then .ok (.nx env) (S2.set i (.ins c (putFD f v fs))) else .bad
    | _ => .bad)
  | _ => .bad
def k_sf1 (cs : List Nat) (f : Str) (fo : Env8 → M D) (env : Env8) : D → M Fl := fun v S1 => bd (fo env S1) (k_sf2 cs f env v)
theorem ap_sf1 {cs : List Nat} {f : Str} {fo : Env8 → M D} : k_sf1 cs f fo env d S = bd (fo env S) (k_sf2 cs f env d) := rfl
theorem ap_sf2 {cs : List Nat} {f : Str} {v : D} {i : Nat} : k_sf2 cs f env v (.loc i) S = (match S[i]? with
    | some (.ins c fs) => if c ∈ cs ∧ fs.length < 1000 then .ok (.nx env) (S.set i (.ins c (putFD f v fs))) else .bad
    | _ => .bad) := rfl
theorem x_setF {cs : List Nat} {f : Str} {fo fv : Env8 → M D} : sSetF cs f fo fv env S = bd (fv env S) (k_sf1 cs f fo env) := rfl
/-- what a def makes of its block's end -/
def endK : Fl → M D
  | .nx _ => M.ret .non
  | .rt d => M.ret d
  | _ => M.bad
theorem x_run {n m : Nat} {body : Env8 → M Fl} {ds : List D} (h : ds.length = n) : runF n m body ds S = bd (body (ds.map some ++ List.replicate (m - n) none) S) endK := by
  unfold runF
  rw [if_pos h]
  unfold M.bnd bd
  cases body (ds.map some ++ List.replicate (m - n) none) S with
  | ok r S1 => cases r <;> rfl
  | _ => rfl
theorem endK_rt : endK (.rt d) S = .ok d S := rfl
theorem endK_nx {e : Env8} : endK (.nx e) S = .ok .non S := rfl
/-- the loops -/
def lpK (k : Env8 → M Fl) : Fl → M Fl
  | .nx e => k e
  | .ct e => k e
  | .bk e => M.ret (.nx e)
  | .rt d => M.ret (.rt d)
theorem lpK_nx {k : Env8 → M Fl} {e : Env8} : lpK k (.nx e) S = k e S := rfl
theorem lpK_ct {k : Env8 → M Fl} {e : Env8} : lpK k (.ct e) S = k e S := rfl
theorem lpK_bk {k : Env8 → M Fl} {e : Env8} : lpK k (.bk e) S = .ok (.nx e) S := rfl
theorem lpK_rt {k : Env8 → M Fl} : lpK k (.rt d) S = .ok (.rt d) S := rfl
def k_for (p : Pat) (b : Env8 → M Fl) (env : Env8) : List D → M Fl := fun ds => loopF p b ds env
theorem ap_for {p : Pat} {b : Env8 → M Fl} {ds : List D} : k_for p b env ds S = loopF p b ds env S := rfl
theorem x_for {fi : Env8 → M (List D)} {p : Pat} {b : Env8 → M Fl} : sFor fi p b env S = bd (fi env S) (k_for p b env) := rfl
theorem x_loop0 {p : Pat} {b : Env8 → M Fl} : loopF p b [] env S = .ok (.nx env) S := rfl
theorem x_loop1 {p : Pat} {b : Env8 → M Fl} {ds : List D} : loopF p b (d :: ds) env S = bd (bindM p d env S) fun e S1 => bd (b e S1) (lpK (loopF p b ds)) := by
  rw [loopF, bnd_bd]
  have e : ∀ e S1, ((b e).bnd fun r => match r with
    | .nx e => loopF p b ds e
    | .ct e => loopF p b ds e
    | .bk e => M.ret (.nx e)
    | .rt d => M.ret (.rt d)) S1 = bd (b e S1) (lpK (loopF p b ds)) := fun e S1 => by
    unfold M.bnd bd
    cases b e S1 with
    | ok r S2 => cases r <;> rfl
    | _ => rfl
  unfold bd
  cases bindM p d env S with
  | ok e1 S1 => exact e e1 S1
  | _ => rfl
theorem x_bind {d : D} : bindM (.nm i) d env S = .ok (env.set i (some d)) S := by unfold bindM bindP; rfl
/-- a loop by an invariant -/
theorem loop_inv {p : Pat} {b : Env8 → M Fl} {I : Nat → Env8 → Store → Prop} : ∀ {ds : List D} {k : Nat} {env : Env8} {S : Store}, I k env S → (∀ j d env S, ds[j]? = some d → I (k + j) env S → ∃ e1, bindM p d env S = .ok e1 S ∧ ∃ e2 S2, (b e1 S = .ok (.nx e2) S2 ∨ b e1 S = .ok (.ct e2) S2) ∧ I (k + j + 1) e2 S2) →
    ∃ e S', loopF p b ds env S = .ok (.nx e) S' ∧ I (k + ds.length) e S'
  | [], k, env, S, h, _ => ⟨env, S, rfl, h⟩
  | d :: ds, k, env, S, h, st => by
    obtain ⟨e1, h1, e2, S2, h2, h3⟩ := st 0 d env S rfl h
    obtain ⟨e, S', h4, h5⟩ := loop_inv (ds := ds) (k := k + 1) h3 fun j d' env S hj hI => by
      have := st (j + 1) d' env S (by simpa using hj) (by rw [show k + (j + 1) = k + 1 + j by omega]; exact hI)
      rw [show k + (j + 1) + 1 = k + 1 + j + 1 by omega] at this
      exact this
    refine ⟨e, S', ?_, by rw [List.length_cons, show k + (ds.length + 1) = k + 1 + ds.length by omega]; exact h5⟩
    rw [x_loop1, h1, bd_ok]
    rcases h2 with h2 | h2
    · rw [h2, bd_ok, lpK_nx, h4]
    · rw [h2, bd_ok, lpK_ct, h4]
/-- comprehensions -/
def k_lcE : List D → M D := fun ys S2 => .ok (.lst ys) S2
def k_lc (p : Pat) (t : Env8 → M Bool) (fe : Env8 → M D) (env : Env8) : List D → M D := fun ds S1 => if ds.length ≤ big then bd (noEr (loopC p t fe (wipe8 env p.slots) ds) S1) k_lcE else .bad
theorem ap_lcE {ds : List D} : k_lcE ds S = .ok (.lst ds) S := rfl
theorem ap_lc {p : Pat} {t : Env8 → M Bool} {fe : Env8 → M D} {ds : List D} : k_lc p t fe env ds S = if ds.length ≤ big then bd (noEr (loopC p t fe (wipe8 env p.slots) ds) S) k_lcE else .bad := rfl
theorem x_lc {fi : Env8 → M (List D)} {p : Pat} {t : Env8 → M Bool} {fe : Env8 → M D} : fLc fi p t fe env S = bd (fi env S) (k_lc p t fe env) := by
  delta k_lc
  delta k_lcE
  unfold fLc
  rw [bnd_bd]
  congr 1
  funext ds S1
  split <;> rfl
theorem noEr_ok {m : M α} {a : α} {S' : Store} (h : m S = .ok a S') : noEr m S = .ok a S' := by unfold noEr; rw [h]
/-- each item yields one, the store stays -/
theorem lc_map8 {p : Pat} {fe : Env8 → M D} {g : D → D} : ∀ {ds : List D}, (∀ d ∈ ds, ∃ e, bindM p d env S = .ok e S ∧ fe e S = .ok (g d) S) → loopC p fYes fe env ds S = .ok (ds.map g) S
  | [], _ => rfl
  | d :: ds, h => by
    obtain ⟨e, h1, h2⟩ := h d List.mem_cons_self
    rw [loopC, bnd_bd, h1, bd_ok, bnd_bd]
    show bd (fe e S) _ = _
    rw [h2, bd_ok, bnd_bd, lc_map8 fun d' hd => h d' (List.mem_cons_of_mem _ hd)]
    rfl
/-- some items are kept, the store stays -/
theorem lc_filter8 {p : Pat} {t : Env8 → M Bool} {fe : Env8 → M D} {g : D → D} {k : D → Bool} : ∀ {ds : List D}, (∀ d ∈ ds, ∃ e, bindM p d env S = .ok e S ∧ t e S = .ok (k d) S ∧ (k d = true → fe e S = .ok (g d) S)) → loopC p t fe env ds S = .ok ((ds.filter k).map g) S
  | [], _ => rfl
  | d :: ds, h => by
    obtain ⟨e, h1, h2, h3⟩ := h d List.mem_cons_self
    rw [loopC, bnd_bd, h1, bd_ok, bnd_bd, h2, bd_ok]
    have ih := lc_filter8 (ds := ds) fun d' hd => h d' (List.mem_cons_of_mem _ hd)
    cases hk : k d with
    | true =>
      rw [List.filter_cons_of_pos hk]
      show bd (fe e S) _ = _
      rw [h3 hk, bd_ok, bnd_bd, ih]
      rfl
    | false =>
      rw [List.filter_cons_of_neg (by rw [hk]; decide)]
      exact ih
/-! equality -/
theorem eqG_int {n : Bool} {i j : Int} : dEqG n (.int i) (.int j) S = .ok (.bl (n ^^ decide (i = j))) S := rfl
theorem eqG_str {n : Bool} {i j : Str} : dEqG n (.str i) (.str j) S = .ok (.bl (n ^^ decide (i = j))) S := rfl
theorem eqG_bl {n : Bool} {i j : Bool} : dEqG n (.bl i) (.bl j) S = .ok (.bl (n ^^ decide (i = j))) S := rfl
theorem xor_t {b : Bool} : (true ^^ b) = !b := by cases b <;> rfl
theorem xor_f {b : Bool} : (false ^^ b) = b := by cases b <;> rfl
theorem toPyL_ints (S : Store) : ∀ ns : List Int, toPyL S (ns.map D.int) = some (ns.map PyData.int)
  | [] => by rw [List.map_nil, toPyL]; rfl
  | n :: r => by rw [List.map_cons, toPyL, toPy, toPyL_ints S r]; rfl
theorem ne_nil (S : Store) (ns : List Int) : dEqG true (.lst (ns.map D.int)) (.lst []) S = .ok (.bl (!ns.isEmpty)) S := by
  have h1 : SeqAt.shaped (.list (ns.map .int)) = true := PySem.W.ke_shaped_ints ns
  have h2 : SeqAt.shaped (.list []) = true := by decide
  unfold dEqG pyOf
  simp only [toPy, toPyL_ints, toPyL, Option.map, h1, h2, and_self, if_true]
  cases ns <;> rfl
theorem ne_nil0 (S : Store) : dEqG true (.lst []) (.lst []) S = .ok (.bl false) S := ne_nil S []
theorem ne_nil1 (S : Store) (n : Int) (ns : List Int) : dEqG true (.lst (.int n :: ns.map D.int)) (.lst []) S = .ok (.bl true) S := ne_nil S (n :: ns)
theorem str_inj {a b : String} : (Str.ofString a = Str.ofString b) = (a = b) := by
  apply propext
  constructor
  · intro h
    rw [Str.ofString_eq_toList, Str.ofString_eq_toList] at h
    have h1 : (a.toList.map Char.toNat).toArray = (b.toList.map Char.toNat).toArray := by injection h
    have h2 : a.toList.map Char.toNat = b.toList.map Char.toNat := by simpa using congrArg Array.toList h1
    have inj : ∀ (x y : List Char), x.map Char.toNat = y.map Char.toNat → x = y := by
      intro x
      induction x with
      | nil => intro y h; cases y with
        | nil => rfl
        | cons _ _ => cases h
      | cons c r ih => intro y h; cases y with
        | nil => cases h
        | cons d q =>
          rw [List.map_cons, List.map_cons] at h
          injection h with h3 h4
          rw [ih q h4, Char.ext (UInt32.toNat_inj.mp h3)]
    exact String.toList_inj.mp (inj _ _ h2)
  · intro h; rw [h]
theorem app_get {S : Store} {x : O} : (S ++ [x])[S.length]? = some x := by rw [List.getElem?_append_right (Nat.le_refl _), Nat.sub_self]; rfl
theorem app_set {S : Store} {x y : O} : (S ++ [x]).set S.length y = S ++ [y] := by rw [List.set_append_right _ _ (Nat.le_refl _), Nat.sub_self]; rfl
theorem eqG_tup {n : Bool} {xs ys : List D} {ps qs : List PyData} (h1 : toPyL S xs = some ps) (h2 : toPyL S ys = some qs) (s1 : SeqAt.shaped (.tuple ps) = true) (s2 : SeqAt.shaped (.tuple qs) = true) : dEqG n (.tup xs) (.tup ys) S = .ok (.bl (n ^^ PyData.eqv (.tuple ps) (.tuple qs))) S := by
  unfold dEqG pyOf
  simp only [toPy, h1, h2, Option.map, s1, s2, and_self, if_true]
theorem eqG_lst {n : Bool} {xs ys : List D} {ps qs : List PyData} (h1 : toPyL S xs = some ps) (h2 : toPyL S ys = some qs) (s1 : SeqAt.shaped (.list ps) = true) (s2 : SeqAt.shaped (.list qs) = true) : dEqG n (.lst xs) (.lst ys) S = .ok (.bl (n ^^ PyData.eqv (.list ps) (.list qs))) S := by
  unfold dEqG pyOf
  simp only [toPy, h1, h2, Option.map, s1, s2, and_self, if_true]
theorem eqG_self {n : Bool} {xs : List D} {ps : List PyData} (h1 : toPyL S xs = some ps) (s1 : SeqAt.shaped (.list ps) = true) : dEqG n (.lst xs) (.lst xs) S = .ok (.bl (n ^^ true)) S := by
  rw [eqG_lst h1 h1 s1 s1, SeqAt.eqv_refl _ (SeqAt.canLay_of_shaped s1)]
theorem eqG_loc {n : Bool} {i : Nat} {xs ys : List D} {ps qs : List PyData} (h0 : S[i]? = some (.lst xs)) (h1 : toPyL S xs = some ps) (h2 : toPyL S ys = some qs) (s1 : SeqAt.shaped (.list ps) = true) (s2 : SeqAt.shaped (.list qs) = true) : dEqG n (.loc i) (.lst ys) S = .ok (.bl (n ^^ PyData.eqv (.list ps) (.list qs))) S := by
  unfold dEqG pyOf
  simp only [asL, h0, toPy, h1, h2, Option.map, s1, s2, and_self, if_true]
/-- a store without places in its things -/
def Clean (S : Store) : Prop := ∀ o ∈ S, ∀ k, O.lim k o = true
theorem Clean.all {S : Store} (h : Clean S) (k : Nat) : S.all (O.lim k) = true := List.all_eq_true.mpr fun o ho => h o ho k
theorem Clean.cons {o : O} (h : ∀ k, O.lim k o = true) (r : Clean S) : Clean (o :: S) := fun x hx k => by
  rcases List.mem_cons.mp hx with e | hx
  · rw [e]; exact h k
  · exact r x hx k
theorem Clean.app {T : Store} (h : Clean S) (r : Clean T) : Clean (S ++ T) := fun x hx k => by
  rcases List.mem_append.mp hx with hx | hx
  · exact h x hx k
  · exact r x hx k
theorem Clean.nil : Clean [] := fun _ h => by cases h
theorem run_ret {n m : Nat} {ds : List D} {S' : Store} (h : ds.length = n) (k : fa (ds.map some ++ List.replicate (m - n) none) S = .ok d S') : runF n m (sRet fa) ds S = .ok d S' := by
  rw [x_run h, x_ret, k]
  rfl
theorem if_pos_ap {c : Prop} [Decidable c] {m n : M α} {r : Res α} (h : c) (k : m S = r := by rfl) : (if c then m else n) S = r := by rw [if_pos h]; exact k
/-! f-texts -/
theorem js_go {f : Env8 → M D} {fs : List (Env8 → M D)} {acc y : Str} {a b : Nat} (ha : acc.length ≤ a) (hf : f env S = .ok (.str y) S) (hy : y.length ≤ b) (hb : a + b ≤ 1000) {r : Res D} (h : (acc ++ y).length ≤ a + b → fJs fs (acc ++ y) env S = r) : fJs (f :: fs) acc env S = r := by
  have e : (acc ++ y).length ≤ a + b := by rw [Str.length_append]; omega
  rw [fJs, bnd_bd, hf, bd_ok]
  dsimp only
  rw [if_pos (Nat.le_trans e (Nat.le_trans hb (by decide)))]
  exact h e
/-! objects -/
theorem gc_ok {m : M D} {S' : Store} (h : m S = .ok d S') (h1 : d.lim S.length = true) (h2 : (S'.take S.length).all (O.lim S.length) = true) : gc m S = .ok d (S'.take S.length) := by unfold gc; rw [h]; exact if_pos ⟨h1, h2⟩
theorem mk_ok {c c' : Nat} {G : List D → M D} {ds : List D} {fs : List (Str × D)} (h : G (.loc S.length :: ds) (S ++ [.ins c []]) = .ok .non (S ++ [.ins c' fs])) (h1 : D.limF S.length fs = true) (h2 : S.all (O.lim S.length) = true) : mkIns c G ds S = .ok (.ins c' fs) S := by
  unfold mkIns
  have e : (fun S => match G (.loc S.length :: ds) (S ++ [.ins c []]) with
    | .ok .non S' => (match S'[S.length]? with
      | some (O.ins c' fs) => Res.ok (D.ins c' fs) (S'.set S.length O.off)
      | _ => .bad)
    | .er c' fs S' => .er c' fs S'
    | _ => .bad) S = .ok (D.ins c' fs) (S ++ [O.off]) := by
    dsimp only
    rw [h]
    dsimp only
    rw [List.getElem?_append_right (Nat.le_refl _), Nat.sub_self]
    dsimp only [List.getElem?_cons_zero]
    rw [List.set_append_right _ _ (Nat.le_refl _), Nat.sub_self]
    rfl
  rw [gc_ok e (by rw [D.lim]; exact h1) (by rw [List.take_left]; exact h2), List.take_left]
theorem mk_er {c c' : Nat} {G : List D → M D} {ds : List D} {fs : List (Str × D)} {o : O} (h : G (.loc S.length :: ds) (S ++ [.ins c []]) = .er c' fs (S ++ [o])) (h1 : D.limF S.length fs = true) (h2 : S.all (O.lim S.length) = true) : mkIns c G ds S = .er c' fs S := by
  unfold mkIns gc
  dsimp only
  rw [h]
  dsimp only
  rw [List.take_left, if_pos ⟨h1, h2⟩]
end
end Ol

namespace Ol
open PySem PySem.Spec PyProof.Rows L2
/-! ### the end of a law -/
def spLaw (K : PySem.W.Frag) : Sp := fun vs H Q _ => ∃ (a : Addr) (ns : List Int), vs = [.ref a] ∧ SqL K H a (ns.map V.int) ∧ ns.length ≤ 63 ∧ ∀ H', Q (.bl true) H'
section
variable {P : Program} {wo : World} {w : Wd} {mg : Str → Option Value} {base : Heap} {k : Nat} {f : Addr} {fd : FuncData} {ps : List Str} {F : List D → M D}
theorem law_sp (hT : w.T = []) (hp : ∀ ns : List Int, ns.length ≤ 63 → ∃ S, F [.scr ns] [] = .ok (.bl true) S) {vs : List V} {H : Hp} {Q : VK} {E : XK} (h : spLaw w.K vs H Q E) : spM w 1 F vs H Q fun _ _ _ => False := by
  obtain ⟨a, ns, rfl, hS, hl, q⟩ := h
  refine ⟨rfl, [.scr ns], ⟨[], [], H, []⟩, rfl, ⟨rfl, List.nodup_nil, fun i a o h => (by simp at h), fun a h => (by cases h), fun a h => (by cases h), fun a h => (by cases h), ?_⟩, ?_, ?_⟩
  · rw [hT]
    intro p h
    cases h
  · rw [RepL]
    refine ⟨_, _, rfl, ?_, by rw [RepL]⟩
    rw [Rep]
    refine ⟨a, rfl, ?_⟩
    rcases hS with hS | hS
    · refine .inl ⟨?_, hS⟩
      rintro (⟨i, o, h, _⟩ | h)
      · simp at h
      · cases h
    · exact .inr hS
  · obtain ⟨S, e⟩ := hp ns hl
    show Out w _ (F [.scr ns] []) _ _
    rw [e]
    intro z' _ _ _ v r
    rw [Rep] at r
    rw [r]
    exact q _
theorem law_endG (G : FnG P wo w.K mg base (L2.CX P wo) k f fd ps (spM w 1 F)) (hl : ps.length = 1) (hT : w.T = []) (hp : ∀ ns : List Int, ns.length ≤ 63 → ∃ S, F [.scr ns] [] = .ok (.bl true) S) : FnG P wo w.K mg base CX0 k f fd ps (spLaw w.K) :=
  ⟨fun vs H Q E ⟨a, ns, e, _⟩ => by rw [e, hl]; rfl, fun A outer s H args us vs Q E hg hr e0 hb r h => codeAny_mono (G.run A outer s H args us vs Q _ hg hr e0 hb r (law_sp hT hp h)) fun x s' hx => by
    cases x with
    | ok a => cases a <;> exact hx
    | error e =>
      obtain ⟨_, _, _, _, _, _, _, _, _, _, _, _, z⟩ := hx
      exact z.elim⟩
theorem law_end (G : FnOk P wo w.K mg base (L2.CX P wo) k f fd ps (spM w 1 F)) (hl : ps.length = 1) (hT : w.T = []) (hp : ∀ ns : List Int, ns.length ≤ 63 → ∃ S, F [.scr ns] [] = .ok (.bl true) S) : FnOk P wo w.K mg base CX0 k f fd ps (spLaw w.K) :=
  ⟨fun vs H Q E ⟨a, ns, e, _⟩ => by rw [e, hl]; rfl, fun A outer s H args us vs Q E hr e0 hb r h => codeAny_mono (G.run A outer s H args us vs Q _ hr e0 hb r (law_sp hT hp h)) fun x s' hx => by
    cases x with
    | ok a => cases a <;> exact hx
    | error e =>
      obtain ⟨_, _, _, _, _, _, _, _, _, _, _, _, z⟩ := hx
      exact z.elim⟩
end
end Ol

namespace Ol
open PySem L2 LamX
def top (i : Nat) : Stmt := PySem.Challenge.pw_onelongturn_k12_trips_made.main.body.getD i (.Pass ⟨0, 0, 0, 0⟩)
abbrev s_is_integer : Stmt := top 3
abbrev s_is_between : Stmt := top 4
abbrev s_is_number : Stmt := top 5
abbrev s_is_name : Stmt := top 6
abbrev s_BadTrip_init : Stmt := inClass (top 12) 0
abbrev s_Trip_init : Stmt := inClass (top 17) 1
abbrev s_Trip_eq : Stmt := inClass (top 17) 11
abbrev s_Trip_str : Stmt := inClass (top 17) 12
abbrev s_Run_init : Stmt := inClass (top 19) 1
abbrev s_Run_str : Stmt := inClass (top 19) 3
abbrev s_Stay_init : Stmt := inClass (top 20) 1
abbrev s_pen : Stmt := top 23
abbrev s_draw : Stmt := top 24
abbrev s_pick : Stmt := top 25
abbrev s_title : Stmt := top 26
abbrev s_number : Stmt := top 27
abbrev s_kinds : Stmt := top 28
abbrev s_parts : Stmt := top 29
abbrev s_run_right : Stmt := top 30
abbrev s_stay_right : Stmt := top 31
abbrev s_law : Stmt := top 32
theorem sc_is_integer : FnScope ["value"] ["value"] (defScope s_is_integer) := ⟨rfl, rfl, rfl, by decide +kernel, rfl, by decide +kernel, by decide +kernel⟩
theorem sc_is_between : FnScope ["value", "low", "high"] ["value", "low", "high"] (defScope s_is_between) := ⟨rfl, rfl, rfl, by decide +kernel, rfl, by decide +kernel, by decide +kernel⟩
theorem sc_is_number : FnScope ["value"] ["value"] (defScope s_is_number) := ⟨rfl, rfl, rfl, by decide +kernel, rfl, by decide +kernel, by decide +kernel⟩
theorem sc_is_name : FnScope ["value", "sign"] ["value"] (defScope s_is_name) := ⟨rfl, rfl, rfl, by decide +kernel, rfl, by decide +kernel, by decide +kernel⟩
theorem sc_BadTrip_init : SupScope ["self", "part"] ["self", "part"] (defScope s_BadTrip_init) := ⟨rfl, rfl, rfl, by decide +kernel, rfl, by decide +kernel, by decide +kernel, by decide +kernel, rfl, rfl⟩
theorem sc_Trip_init : FnScope ["self", "name", "start", "leaves", "takes", "goal"] ["self", "name", "start", "leaves", "takes", "goal"] (defScope s_Trip_init) := ⟨rfl, rfl, rfl, by decide +kernel, rfl, by decide +kernel, by decide +kernel⟩
theorem sc_Trip_eq : FnScope ["self", "other"] ["self", "other"] (defScope s_Trip_eq) := ⟨rfl, rfl, rfl, by decide +kernel, rfl, by decide +kernel, by decide +kernel⟩
theorem sc_Trip_str : FnScope ["self"] ["self"] (defScope s_Trip_str) := ⟨rfl, rfl, rfl, by decide +kernel, rfl, by decide +kernel, by decide +kernel⟩
theorem sc_Run_init : SupScope ["self", "name", "start", "leaves", "takes", "goal"] ["self", "name", "start", "leaves", "takes", "goal"] (defScope s_Run_init) := ⟨rfl, rfl, rfl, by decide +kernel, rfl, by decide +kernel, by decide +kernel, by decide +kernel, rfl, rfl⟩
theorem sc_Run_str : FnScope ["self"] ["self"] (defScope s_Run_str) := ⟨rfl, rfl, rfl, by decide +kernel, rfl, by decide +kernel, by decide +kernel⟩
theorem sc_Stay_init : SupScope ["self", "name", "place", "leaves", "takes"] ["self", "name", "place", "leaves", "takes"] (defScope s_Stay_init) := ⟨rfl, rfl, rfl, by decide +kernel, rfl, by decide +kernel, by decide +kernel, by decide +kernel, rfl, rfl⟩
theorem sc_pen : FnScope ["_law_script"] ["_law_script"] (defScope s_pen) := ⟨rfl, rfl, rfl, by decide +kernel, rfl, by decide +kernel, by decide +kernel⟩
theorem sc_draw : FnScope ["_law_pen_here", "_law_many", "_law_turn", "_law_cell", "_law_mixed", "_law_digit", "_law_great"] ["_law_pen_here", "_law_many"] (defScope s_draw) := ⟨rfl, rfl, rfl, by decide +kernel, rfl, by decide +kernel, by decide +kernel⟩
theorem sc_pick : FnScope ["_law_pen_here", "_law_some"] ["_law_pen_here", "_law_some"] (defScope s_pick) := ⟨rfl, rfl, rfl, by decide +kernel, rfl, by decide +kernel, by decide +kernel⟩
theorem sc_title : FnScope ["_law_pen_here", "_law_some"] ["_law_pen_here"] (defScope s_title) := ⟨rfl, rfl, rfl, by decide +kernel, rfl, by decide +kernel, by decide +kernel⟩
theorem sc_number : FnScope ["_law_pen_here", "_law_least"] ["_law_pen_here", "_law_least"] (defScope s_number) := ⟨rfl, rfl, rfl, by decide +kernel, rfl, by decide +kernel, by decide +kernel⟩
theorem sc_kinds : FnScope ["_law_made"] ["_law_made"] (defScope s_kinds) := ⟨rfl, rfl, rfl, by decide +kernel, rfl, by decide +kernel, by decide +kernel⟩
theorem sc_parts : FnScope ["_law_made"] ["_law_made"] (defScope s_parts) := ⟨rfl, rfl, rfl, by decide +kernel, rfl, by decide +kernel, by decide +kernel⟩
theorem sc_run_right : FnScope ["_law_pen_here", "_law_parts_here", "_law_made", "_law_twin", "_law_at", "_law_others", "_law_title_here", "_law_home", "_law_when", "_law_span", "_law_target", "_law_bent", "_law_other", "_law_odd"] ["_law_pen_here", "_law_parts_here"] (defScope s_run_right) := ⟨rfl, rfl, rfl, by decide +kernel, rfl, by decide +kernel, by decide +kernel⟩
theorem sc_stay_right : FnScope ["_law_pen_here", "_law_parts_here", "_law_made", "_law_at", "_law_title_here", "_law_home", "_law_when", "_law_span", "_law_bent", "_law_other", "_law_odd"] ["_law_pen_here", "_law_parts_here"] (defScope s_stay_right) := ⟨rfl, rfl, rfl, by decide +kernel, rfl, by decide +kernel, by decide +kernel⟩
theorem sc_law : FnScope ["_law_script", "_law_pen_here", "_law_lap", "_law_parts_here"] ["_law_script"] (defScope s_law) := ⟨rfl, rfl, rfl, by decide +kernel, rfl, by decide +kernel, by decide +kernel⟩
theorem bt_abs : bootBuiltins "abs" = some (.builtin "abs") := by decide +kernel
theorem bt_all : bootBuiltins "all" = some (.builtin "all") := by decide +kernel
theorem bt_bool : bootBuiltins "bool" = some (.type "bool") := by decide +kernel
theorem bt_int : bootBuiltins "int" = some (.type "int") := by decide +kernel
theorem bt_isinstance : bootBuiltins "isinstance" = some (.builtin "isinstance") := by decide +kernel
theorem bt_len : bootBuiltins "len" = some (.builtin "len") := by decide +kernel
theorem bt_list : bootBuiltins "list" = some (.type "list") := by decide +kernel
theorem bt_max : bootBuiltins "max" = some (.builtin "max") := by decide +kernel
theorem bt_range : bootBuiltins "range" = some (.type "range") := by decide +kernel
theorem bt_repr : bootBuiltins "repr" = some (.builtin "repr") := by decide +kernel
theorem bt_str : bootBuiltins "str" = some (.type "str") := by decide +kernel
theorem bt_tuple : bootBuiltins "tuple" = some (.type "tuple") := by decide +kernel
structure Ad where
  BadTrip : Addr
  Trip : Addr
  Paused : Addr
  Run : Addr
  Stay : Addr
  is_integer : Addr
  is_between : Addr
  is_number : Addr
  is_name : Addr
  BadTrip_init : Addr
  Trip_init : Addr
  Trip_eq : Addr
  Trip_str : Addr
  Run_init : Addr
  Run_str : Addr
  Stay_init : Addr
  pen : Addr
  draw : Addr
  pick : Addr
  title : Addr
  number : Addr
  kinds : Addr
  parts : Addr
  run_right : Addr
  stay_right : Addr
  law : Addr
structure Fd where
  is_integer : FuncData
  is_between : FuncData
  is_number : FuncData
  is_name : FuncData
  BadTrip_init : FuncData
  Trip_init : FuncData
  Trip_eq : FuncData
  Trip_str : FuncData
  Run_init : FuncData
  Run_str : FuncData
  Stay_init : FuncData
  pen : FuncData
  draw : FuncData
  pick : FuncData
  title : FuncData
  number : FuncData
  kinds : FuncData
  parts : FuncData
  run_right : FuncData
  stay_right : FuncData
  law : FuncData
structure Txt (P : Program) (K : PySem.W.Frag) (mg : Str → Option Value) (A : Ad) (D : Fd) : Prop where
  m_is_integer : mg "is_integer" = some (.ref A.is_integer)
  f_is_integer : Fun K "is_integer" "is_integer" s_is_integer A.is_integer D.is_integer
  b_is_integer : Binds K D.is_integer ["value"] []
  m_is_between : mg "is_between" = some (.ref A.is_between)
  f_is_between : Fun K "is_between" "is_between" s_is_between A.is_between D.is_between
  b_is_between : Binds K D.is_between ["value", "low", "high"] []
  m_is_number : mg "is_number" = some (.ref A.is_number)
  f_is_number : Fun K "is_number" "is_number" s_is_number A.is_number D.is_number
  b_is_number : Binds K D.is_number ["value"] []
  m_is_name : mg "is_name" = some (.ref A.is_name)
  f_is_name : Fun K "is_name" "is_name" s_is_name A.is_name D.is_name
  b_is_name : Binds K D.is_name ["value"] []
  f_BadTrip_init : FunS P K "__init__" "BadTrip.__init__" s_BadTrip_init A.BadTrip_init D.BadTrip_init A.BadTrip
  b_BadTrip_init : Binds K D.BadTrip_init ["self", "part"] []
  f_Trip_init : Fun K "__init__" "Trip.__init__" s_Trip_init A.Trip_init D.Trip_init
  b_Trip_init : Binds K D.Trip_init ["self", "name", "start", "leaves", "takes", "goal"] []
  f_Trip_eq : Fun K "__eq__" "Trip.__eq__" s_Trip_eq A.Trip_eq D.Trip_eq
  b_Trip_eq : Binds K D.Trip_eq ["self", "other"] []
  f_Trip_str : Fun K "__str__" "Trip.__str__" s_Trip_str A.Trip_str D.Trip_str
  b_Trip_str : Binds K D.Trip_str ["self"] []
  f_Run_init : FunS P K "__init__" "Run.__init__" s_Run_init A.Run_init D.Run_init A.Run
  b_Run_init : Binds K D.Run_init ["self", "name", "start", "leaves", "takes", "goal"] []
  f_Run_str : Fun K "__str__" "Run.__str__" s_Run_str A.Run_str D.Run_str
  b_Run_str : Binds K D.Run_str ["self"] []
  f_Stay_init : FunS P K "__init__" "Stay.__init__" s_Stay_init A.Stay_init D.Stay_init A.Stay
  b_Stay_init : Binds K D.Stay_init ["self", "name", "place", "leaves", "takes"] []
  m_pen : mg "_law_pen" = some (.ref A.pen)
  f_pen : Fun K "_law_pen" "_law_pen" s_pen A.pen D.pen
  b_pen : Binds K D.pen ["_law_script"] []
  m_draw : mg "_law_draw" = some (.ref A.draw)
  f_draw : Fun K "_law_draw" "_law_draw" s_draw A.draw D.draw
  b_draw : Binds K D.draw ["_law_pen_here", "_law_many"] []
  m_pick : mg "_law_pick" = some (.ref A.pick)
  f_pick : Fun K "_law_pick" "_law_pick" s_pick A.pick D.pick
  b_pick : Binds K D.pick ["_law_pen_here", "_law_some"] []
  m_title : mg "_law_title" = some (.ref A.title)
  f_title : Fun K "_law_title" "_law_title" s_title A.title D.title
  b_title : Binds K D.title ["_law_pen_here"] []
  m_number : mg "_law_number" = some (.ref A.number)
  f_number : Fun K "_law_number" "_law_number" s_number A.number D.number
  b_number : Binds K D.number ["_law_pen_here", "_law_least"] []
  m_kinds : mg "_law_kinds" = some (.ref A.kinds)
  f_kinds : Fun K "_law_kinds" "_law_kinds" s_kinds A.kinds D.kinds
  b_kinds : Binds K D.kinds ["_law_made"] []
  m_parts : mg "_law_parts" = some (.ref A.parts)
  f_parts : Fun K "_law_parts" "_law_parts" s_parts A.parts D.parts
  b_parts : Binds K D.parts ["_law_made"] []
  m_run_right : mg "_law_run_right" = some (.ref A.run_right)
  f_run_right : Fun K "_law_run_right" "_law_run_right" s_run_right A.run_right D.run_right
  b_run_right : Binds K D.run_right ["_law_pen_here", "_law_parts_here"] []
  m_stay_right : mg "_law_stay_right" = some (.ref A.stay_right)
  f_stay_right : Fun K "_law_stay_right" "_law_stay_right" s_stay_right A.stay_right D.stay_right
  b_stay_right : Binds K D.stay_right ["_law_pen_here", "_law_parts_here"] []
  m_law : mg "law" = some (.ref A.law)
  f_law : Fun K "law" "law" s_law A.law D.law
  b_law : Binds K D.law ["_law_script"] []
  m_BadTrip : mg "BadTrip" = some (.ref A.BadTrip)
  m_Trip : mg "Trip" = some (.ref A.Trip)
  cl_Trip : Cls K A.Trip
  mk_Trip : Mk K A.Trip A.Trip_init
  m_Paused : mg "Paused" = some (.ref A.Paused)
  cl_Paused : Cls K A.Paused
  m_Run : mg "Run" = some (.ref A.Run)
  cl_Run : Cls K A.Run
  mk_Run : Mk K A.Run A.Run_init
  m_Stay : mg "Stay" = some (.ref A.Stay)
  cl_Stay : Cls K A.Stay
  mk_Stay : Mk K A.Stay A.Stay_init
  na_Run_goal : NoAttr K A.Run "goal"
  na_Run_leaves : NoAttr K A.Run "leaves"
  na_Run_name : NoAttr K A.Run "name"
  na_Run_start : NoAttr K A.Run "start"
  na_Run_takes : NoAttr K A.Run "takes"
  na_Stay_goal : NoAttr K A.Stay "goal"
  na_Stay_leaves : NoAttr K A.Stay "leaves"
  na_Stay_name : NoAttr K A.Stay "name"
  na_Stay_start : NoAttr K A.Stay "start"
  na_Stay_takes : NoAttr K A.Stay "takes"
  na_Trip_goal : NoAttr K A.Trip "goal"
  na_Trip_leaves : NoAttr K A.Trip "leaves"
  na_Trip_name : NoAttr K A.Trip "name"
  na_Trip_start : NoAttr K A.Trip "start"
  na_Trip_takes : NoAttr K A.Trip "takes"
  me_Trip_eq : Meth K A.Trip "__eq__" A.Trip_eq
  me_Trip_str : Meth K A.Trip "__str__" A.Trip_str
  me_Run_str : Meth K A.Run "__str__" A.Run_str
  me_Run_eq : Meth K A.Run "__eq__" A.Trip_eq
  me_Stay_eq : Meth K A.Stay "__eq__" A.Trip_eq
  me_Stay_str : Meth K A.Stay "__str__" A.Trip_str
  co_Run_Eq : CmpOf K A.Run .Eq A.Trip_eq
  co_Stay_Eq : CmpOf K A.Stay .Eq A.Trip_eq
  ne_Run : NeOf K A.Run A.Trip_eq
  ne_Stay : NeOf K A.Stay A.Trip_eq
  cn_Run_WORD : ∃ u, Con K A.Run "WORD" (.str "run") u
  cn_Stay_WORD : ∃ u, Con K A.Stay "WORD" (.str "stay") u
  cn_Trip_WORD : ∃ u, Con K A.Trip "WORD" (.str "trip") u
  is_Trip : IsC K A.Trip
  is_Paused : IsC K A.Paused
  is_Run : IsC K A.Run
  is_Stay : IsC K A.Stay
  er_BadTrip : ErrT K A.BadTrip A.BadTrip_init
  nf_BadTrip_part : PySem.W.findIn K (.ref A.BadTrip) "part" = some none
  so_Run : SupO K A.Run A.Run A.Trip_init
  so_Stay : SupO K A.Stay A.Stay A.Trip_init
  fi_Trip_init : PySem.W.fnIn K A.Trip_init = true
  ff_Trip_init : PySem.W.isFn K (.ref A.Trip_init) = true
  ms : mg "super" = none
  op : PySem.W.nsIn K cStatics "thirdparty.any" = some none
  g_LETTERS : ∃ t, mg "LETTERS" = some (Value.str "abcdefghijklmnopqrstuvwxyz" t)
  g_MOST_NUMBER : ∃ t, mg "MOST_NUMBER" = some (Value.int 1000000000000 t)
  n_abs : mg "abs" = none
  n_all : mg "all" = none
  n_bool : mg "bool" = none
  n_int : mg "int" = none
  n_isinstance : mg "isinstance" = none
  n_len : mg "len" = none
  n_list : mg "list" = none
  n_max : mg "max" = none
  n_range : mg "range" = none
  n_repr : mg "repr" = none
  n_str : mg "str" = none
  n_tuple : mg "tuple" = none
  kq_tNoneType_Paused : PySem.W.kitOne K (.type "NoneType") (.ref A.Paused) = some false
  kq_tbool_Paused : PySem.W.kitOne K (.type "bool") (.ref A.Paused) = some false
  kq_tint_Paused : PySem.W.kitOne K (.type "int") (.ref A.Paused) = some false
  kq_tstr_Paused : PySem.W.kitOne K (.type "str") (.ref A.Paused) = some false
  kq_tlist_Paused : PySem.W.kitOne K (.type "list") (.ref A.Paused) = some false
  kq_ttuple_Paused : PySem.W.kitOne K (.type "tuple") (.ref A.Paused) = some false
  kq_tdict_Paused : PySem.W.kitOne K (.type "dict") (.ref A.Paused) = some false
  kq_Trip_Paused : PySem.W.kitOne K (.ref A.Trip) (.ref A.Paused) = some false
  kq_Run_Paused : PySem.W.kitOne K (.ref A.Run) (.ref A.Paused) = some true
  kq_Stay_Paused : PySem.W.kitOne K (.ref A.Stay) (.ref A.Paused) = some false
  kq_BadTrip_Paused : PySem.W.kitOne K (.ref A.BadTrip) (.ref A.Paused) = some false
  kq_tNoneType_Run : PySem.W.kitOne K (.type "NoneType") (.ref A.Run) = some false
  kq_tbool_Run : PySem.W.kitOne K (.type "bool") (.ref A.Run) = some false
  kq_tint_Run : PySem.W.kitOne K (.type "int") (.ref A.Run) = some false
  kq_tstr_Run : PySem.W.kitOne K (.type "str") (.ref A.Run) = some false
  kq_tlist_Run : PySem.W.kitOne K (.type "list") (.ref A.Run) = some false
  kq_ttuple_Run : PySem.W.kitOne K (.type "tuple") (.ref A.Run) = some false
  kq_tdict_Run : PySem.W.kitOne K (.type "dict") (.ref A.Run) = some false
  kq_Trip_Run : PySem.W.kitOne K (.ref A.Trip) (.ref A.Run) = some false
  kq_Run_Run : PySem.W.kitOne K (.ref A.Run) (.ref A.Run) = some true
  kq_Stay_Run : PySem.W.kitOne K (.ref A.Stay) (.ref A.Run) = some false
  kq_BadTrip_Run : PySem.W.kitOne K (.ref A.BadTrip) (.ref A.Run) = some false
  kq_tNoneType_Stay : PySem.W.kitOne K (.type "NoneType") (.ref A.Stay) = some false
  kq_tbool_Stay : PySem.W.kitOne K (.type "bool") (.ref A.Stay) = some false
  kq_tint_Stay : PySem.W.kitOne K (.type "int") (.ref A.Stay) = some false
  kq_tstr_Stay : PySem.W.kitOne K (.type "str") (.ref A.Stay) = some false
  kq_tlist_Stay : PySem.W.kitOne K (.type "list") (.ref A.Stay) = some false
  kq_ttuple_Stay : PySem.W.kitOne K (.type "tuple") (.ref A.Stay) = some false
  kq_tdict_Stay : PySem.W.kitOne K (.type "dict") (.ref A.Stay) = some false
  kq_Trip_Stay : PySem.W.kitOne K (.ref A.Trip) (.ref A.Stay) = some false
  kq_Run_Stay : PySem.W.kitOne K (.ref A.Run) (.ref A.Stay) = some false
  kq_Stay_Stay : PySem.W.kitOne K (.ref A.Stay) (.ref A.Stay) = some true
  kq_BadTrip_Stay : PySem.W.kitOne K (.ref A.BadTrip) (.ref A.Stay) = some false
  kq_tNoneType_Trip : PySem.W.kitOne K (.type "NoneType") (.ref A.Trip) = some false
  kq_tbool_Trip : PySem.W.kitOne K (.type "bool") (.ref A.Trip) = some false
  kq_tint_Trip : PySem.W.kitOne K (.type "int") (.ref A.Trip) = some false
  kq_tstr_Trip : PySem.W.kitOne K (.type "str") (.ref A.Trip) = some false
  kq_tlist_Trip : PySem.W.kitOne K (.type "list") (.ref A.Trip) = some false
  kq_ttuple_Trip : PySem.W.kitOne K (.type "tuple") (.ref A.Trip) = some false
  kq_tdict_Trip : PySem.W.kitOne K (.type "dict") (.ref A.Trip) = some false
  kq_Trip_Trip : PySem.W.kitOne K (.ref A.Trip) (.ref A.Trip) = some true
  kq_Run_Trip : PySem.W.kitOne K (.ref A.Run) (.ref A.Trip) = some true
  kq_Stay_Trip : PySem.W.kitOne K (.ref A.Stay) (.ref A.Trip) = some true
  kq_BadTrip_Trip : PySem.W.kitOne K (.ref A.BadTrip) (.ref A.Trip) = some false
  kq_Trip_tbool : PySem.W.kitOne K (.ref A.Trip) (.type "bool") = some false
  kq_Run_tbool : PySem.W.kitOne K (.ref A.Run) (.type "bool") = some false
  kq_Stay_tbool : PySem.W.kitOne K (.ref A.Stay) (.type "bool") = some false
  kq_BadTrip_tbool : PySem.W.kitOne K (.ref A.BadTrip) (.type "bool") = some false
  kq_Trip_tint : PySem.W.kitOne K (.ref A.Trip) (.type "int") = some false
  kq_Run_tint : PySem.W.kitOne K (.ref A.Run) (.type "int") = some false
  kq_Stay_tint : PySem.W.kitOne K (.ref A.Stay) (.type "int") = some false
  kq_BadTrip_tint : PySem.W.kitOne K (.ref A.BadTrip) (.type "int") = some false
  kq_Trip_tstr : PySem.W.kitOne K (.ref A.Trip) (.type "str") = some false
  kq_Run_tstr : PySem.W.kitOne K (.ref A.Run) (.type "str") = some false
  kq_Stay_tstr : PySem.W.kitOne K (.ref A.Stay) (.type "str") = some false
  kq_BadTrip_tstr : PySem.W.kitOne K (.ref A.BadTrip) (.type "str") = some false
  sb_Run_tNoneType : PySem.W.subIn K (.type "NoneType") (.ref A.Run) = some false
  sb_Run_tbool : PySem.W.subIn K (.type "bool") (.ref A.Run) = some false
  sb_Run_tint : PySem.W.subIn K (.type "int") (.ref A.Run) = some false
  sb_Run_tstr : PySem.W.subIn K (.type "str") (.ref A.Run) = some false
  sb_Run_tlist : PySem.W.subIn K (.type "list") (.ref A.Run) = some false
  sb_Run_ttuple : PySem.W.subIn K (.type "tuple") (.ref A.Run) = some false
  sb_Run_tdict : PySem.W.subIn K (.type "dict") (.ref A.Run) = some false
  sb_Run_Trip : PySem.W.subIn K (.ref A.Trip) (.ref A.Run) = some false
  sb_Run_Stay : PySem.W.subIn K (.ref A.Stay) (.ref A.Run) = some false
  sb_Stay_tNoneType : PySem.W.subIn K (.type "NoneType") (.ref A.Stay) = some false
  sb_Stay_tbool : PySem.W.subIn K (.type "bool") (.ref A.Stay) = some false
  sb_Stay_tint : PySem.W.subIn K (.type "int") (.ref A.Stay) = some false
  sb_Stay_tstr : PySem.W.subIn K (.type "str") (.ref A.Stay) = some false
  sb_Stay_tlist : PySem.W.subIn K (.type "list") (.ref A.Stay) = some false
  sb_Stay_ttuple : PySem.W.subIn K (.type "tuple") (.ref A.Stay) = some false
  sb_Stay_tdict : PySem.W.subIn K (.type "dict") (.ref A.Stay) = some false
  sb_Stay_Trip : PySem.W.subIn K (.ref A.Trip) (.ref A.Stay) = some false
  sb_Stay_Run : PySem.W.subIn K (.ref A.Run) (.ref A.Stay) = some false
def cmOf (A : Ad) : Nat → Addr
  | 3 => A.BadTrip
  | 6 => A.Trip
  | 7 => A.Paused
  | 8 => A.Run
  | 9 => A.Stay
  | _ => 0
abbrev W8 (K : PySem.W.Frag) (A : Ad) : Wd := ⟨K, cmOf A, []⟩
def kOwn : List Nat := [6, 8, 9]
def kErs : List Nat := [3]
def kTb : List (Tg × Tg × Bool) := [(.ty "NoneType", .own 7, false), (.ty "bool", .own 7, false), (.ty "int", .own 7, false), (.ty "str", .own 7, false), (.ty "list", .own 7, false), (.ty "tuple", .own 7, false), (.ty "dict", .own 7, false), (.own 6, .own 7, false), (.own 8, .own 7, true), (.own 9, .own 7, false), (.own 3, .own 7, false), (.ty "NoneType", .own 8, false), (.ty "bool", .own 8, false), (.ty "int", .own 8, false), (.ty "str", .own 8, false), (.ty "list", .own 8, false), (.ty "tuple", .own 8, false), (.ty "dict", .own 8, false), (.own 6, .own 8, false), (.own 8, .own 8, true), (.own 9, .own 8, false), (.own 3, .own 8, false), (.ty "NoneType", .own 9, false), (.ty "bool", .own 9, false), (.ty "int", .own 9, false), (.ty "str", .own 9, false), (.ty "list", .own 9, false), (.ty "tuple", .own 9, false), (.ty "dict", .own 9, false), (.own 6, .own 9, false), (.own 8, .own 9, false), (.own 9, .own 9, true), (.own 3, .own 9, false), (.ty "NoneType", .own 6, false), (.ty "bool", .own 6, false), (.ty "int", .own 6, false), (.ty "str", .own 6, false), (.ty "list", .own 6, false), (.ty "tuple", .own 6, false), (.ty "dict", .own 6, false), (.own 6, .own 6, true), (.own 8, .own 6, true), (.own 9, .own 6, true), (.own 3, .own 6, false), (.ty "NoneType", .ty "bool", false), (.ty "bool", .ty "bool", true), (.ty "int", .ty "bool", false), (.ty "str", .ty "bool", false), (.ty "list", .ty "bool", false), (.ty "tuple", .ty "bool", false), (.ty "dict", .ty "bool", false), (.own 6, .ty "bool", false), (.own 8, .ty "bool", false), (.own 9, .ty "bool", false), (.own 3, .ty "bool", false), (.ty "NoneType", .ty "int", false), (.ty "bool", .ty "int", true), (.ty "int", .ty "int", true), (.ty "str", .ty "int", false), (.ty "list", .ty "int", false), (.ty "tuple", .ty "int", false), (.ty "dict", .ty "int", false), (.own 6, .ty "int", false), (.own 8, .ty "int", false), (.own 9, .ty "int", false), (.own 3, .ty "int", false), (.ty "NoneType", .ty "str", false), (.ty "bool", .ty "str", false), (.ty "int", .ty "str", false), (.ty "str", .ty "str", true), (.ty "list", .ty "str", false), (.ty "tuple", .ty "str", false), (.ty "dict", .ty "str", false), (.own 6, .ty "str", false), (.own 8, .ty "str", false), (.own 9, .ty "str", false), (.own 3, .ty "str", false)]
theorem kt0 : kitL kTb (.ty "NoneType") (.own 7) = some false := by decide +kernel
theorem kt1 : kitL kTb (.ty "bool") (.own 7) = some false := by decide +kernel
theorem kt2 : kitL kTb (.ty "int") (.own 7) = some false := by decide +kernel
theorem kt3 : kitL kTb (.ty "str") (.own 7) = some false := by decide +kernel
theorem kt4 : kitL kTb (.ty "list") (.own 7) = some false := by decide +kernel
theorem kt5 : kitL kTb (.ty "tuple") (.own 7) = some false := by decide +kernel
theorem kt6 : kitL kTb (.ty "dict") (.own 7) = some false := by decide +kernel
theorem kt7 : kitL kTb (.own 6) (.own 7) = some false := by decide +kernel
theorem kt8 : kitL kTb (.own 8) (.own 7) = some true := by decide +kernel
theorem kt9 : kitL kTb (.own 9) (.own 7) = some false := by decide +kernel
theorem kt10 : kitL kTb (.own 3) (.own 7) = some false := by decide +kernel
theorem kt11 : kitL kTb (.ty "NoneType") (.own 8) = some false := by decide +kernel
theorem kt12 : kitL kTb (.ty "bool") (.own 8) = some false := by decide +kernel
theorem kt13 : kitL kTb (.ty "int") (.own 8) = some false := by decide +kernel
theorem kt14 : kitL kTb (.ty "str") (.own 8) = some false := by decide +kernel
theorem kt15 : kitL kTb (.ty "list") (.own 8) = some false := by decide +kernel
theorem kt16 : kitL kTb (.ty "tuple") (.own 8) = some false := by decide +kernel
theorem kt17 : kitL kTb (.ty "dict") (.own 8) = some false := by decide +kernel
theorem kt18 : kitL kTb (.own 6) (.own 8) = some false := by decide +kernel
theorem kt19 : kitL kTb (.own 8) (.own 8) = some true := by decide +kernel
theorem kt20 : kitL kTb (.own 9) (.own 8) = some false := by decide +kernel
theorem kt21 : kitL kTb (.own 3) (.own 8) = some false := by decide +kernel
theorem kt22 : kitL kTb (.ty "NoneType") (.own 9) = some false := by decide +kernel
theorem kt23 : kitL kTb (.ty "bool") (.own 9) = some false := by decide +kernel
theorem kt24 : kitL kTb (.ty "int") (.own 9) = some false := by decide +kernel
theorem kt25 : kitL kTb (.ty "str") (.own 9) = some false := by decide +kernel
theorem kt26 : kitL kTb (.ty "list") (.own 9) = some false := by decide +kernel
theorem kt27 : kitL kTb (.ty "tuple") (.own 9) = some false := by decide +kernel
theorem kt28 : kitL kTb (.ty "dict") (.own 9) = some false := by decide +kernel
theorem kt29 : kitL kTb (.own 6) (.own 9) = some false := by decide +kernel
theorem kt30 : kitL kTb (.own 8) (.own 9) = some false := by decide +kernel
theorem kt31 : kitL kTb (.own 9) (.own 9) = some true := by decide +kernel
theorem kt32 : kitL kTb (.own 3) (.own 9) = some false := by decide +kernel
theorem kt33 : kitL kTb (.ty "NoneType") (.own 6) = some false := by decide +kernel
theorem kt34 : kitL kTb (.ty "bool") (.own 6) = some false := by decide +kernel
theorem kt35 : kitL kTb (.ty "int") (.own 6) = some false := by decide +kernel
theorem kt36 : kitL kTb (.ty "str") (.own 6) = some false := by decide +kernel
theorem kt37 : kitL kTb (.ty "list") (.own 6) = some false := by decide +kernel
theorem kt38 : kitL kTb (.ty "tuple") (.own 6) = some false := by decide +kernel
theorem kt39 : kitL kTb (.ty "dict") (.own 6) = some false := by decide +kernel
theorem kt40 : kitL kTb (.own 6) (.own 6) = some true := by decide +kernel
theorem kt41 : kitL kTb (.own 8) (.own 6) = some true := by decide +kernel
theorem kt42 : kitL kTb (.own 9) (.own 6) = some true := by decide +kernel
theorem kt43 : kitL kTb (.own 3) (.own 6) = some false := by decide +kernel
theorem kt44 : kitL kTb (.ty "NoneType") (.ty "bool") = some false := by decide +kernel
theorem kt45 : kitL kTb (.ty "bool") (.ty "bool") = some true := by decide +kernel
theorem kt46 : kitL kTb (.ty "int") (.ty "bool") = some false := by decide +kernel
theorem kt47 : kitL kTb (.ty "str") (.ty "bool") = some false := by decide +kernel
theorem kt48 : kitL kTb (.ty "list") (.ty "bool") = some false := by decide +kernel
theorem kt49 : kitL kTb (.ty "tuple") (.ty "bool") = some false := by decide +kernel
theorem kt50 : kitL kTb (.ty "dict") (.ty "bool") = some false := by decide +kernel
theorem kt51 : kitL kTb (.own 6) (.ty "bool") = some false := by decide +kernel
theorem kt52 : kitL kTb (.own 8) (.ty "bool") = some false := by decide +kernel
theorem kt53 : kitL kTb (.own 9) (.ty "bool") = some false := by decide +kernel
theorem kt54 : kitL kTb (.own 3) (.ty "bool") = some false := by decide +kernel
theorem kt55 : kitL kTb (.ty "NoneType") (.ty "int") = some false := by decide +kernel
theorem kt56 : kitL kTb (.ty "bool") (.ty "int") = some true := by decide +kernel
theorem kt57 : kitL kTb (.ty "int") (.ty "int") = some true := by decide +kernel
theorem kt58 : kitL kTb (.ty "str") (.ty "int") = some false := by decide +kernel
theorem kt59 : kitL kTb (.ty "list") (.ty "int") = some false := by decide +kernel
theorem kt60 : kitL kTb (.ty "tuple") (.ty "int") = some false := by decide +kernel
theorem kt61 : kitL kTb (.ty "dict") (.ty "int") = some false := by decide +kernel
theorem kt62 : kitL kTb (.own 6) (.ty "int") = some false := by decide +kernel
theorem kt63 : kitL kTb (.own 8) (.ty "int") = some false := by decide +kernel
theorem kt64 : kitL kTb (.own 9) (.ty "int") = some false := by decide +kernel
theorem kt65 : kitL kTb (.own 3) (.ty "int") = some false := by decide +kernel
theorem kt66 : kitL kTb (.ty "NoneType") (.ty "str") = some false := by decide +kernel
theorem kt67 : kitL kTb (.ty "bool") (.ty "str") = some false := by decide +kernel
theorem kt68 : kitL kTb (.ty "int") (.ty "str") = some false := by decide +kernel
theorem kt69 : kitL kTb (.ty "str") (.ty "str") = some true := by decide +kernel
theorem kt70 : kitL kTb (.ty "list") (.ty "str") = some false := by decide +kernel
theorem kt71 : kitL kTb (.ty "tuple") (.ty "str") = some false := by decide +kernel
theorem kt72 : kitL kTb (.ty "dict") (.ty "str") = some false := by decide +kernel
theorem kt73 : kitL kTb (.own 6) (.ty "str") = some false := by decide +kernel
theorem kt74 : kitL kTb (.own 8) (.ty "str") = some false := by decide +kernel
theorem kt75 : kitL kTb (.own 9) (.ty "str") = some false := by decide +kernel
theorem kt76 : kitL kTb (.own 3) (.ty "str") = some false := by decide +kernel
theorem kty (s : String) : okTag kOwn (.ty s) = true := rfl
theorem ko6 : okTag kOwn (.own 6) = true := by decide +kernel
theorem ko8 : okTag kOwn (.own 8) = true := by decide +kernel
theorem ko9 : okTag kOwn (.own 9) = true := by decide +kernel
theorem ke3 : (3 ∈ kErs) = True := by decide +kernel
def nfRun : List Tg := [.own 8, .ty "NoneType", .ty "bool", .ty "int", .ty "str", .ty "list", .ty "tuple", .ty "dict", .own 6, .own 9]
def nfStay : List Tg := [.own 9, .ty "NoneType", .ty "bool", .ty "int", .ty "str", .ty "list", .ty "tuple", .ty "dict", .own 6, .own 8]
def F_is_integer : List D → M D := runF 1 1 (sRet (fAndV (f1 (dIsi kOwn kErs kTb) (fCons (fVar 0) (fCons (fC (.ty "int")) fNil))) (fNotV (f1 (dIsi kOwn kErs kTb) (fCons (fVar 0) (fCons (fC (.ty "bool")) fNil))))))
theorem ar_is_integer : Ar 1 F_is_integer := ar_runF
def F_is_between : List D → M D := runF 3 3 (sRet (fAndV (f1 F_is_integer (fCons (fVar 0) fNil)) (fChain dLe dLe (fVar 1) (fVar 0) (fVar 2))))
theorem ar_is_between : Ar 3 F_is_between := ar_runF
def F_is_number : List D → M D := runF 1 1 (sRet (f1 F_is_between (fCons (fVar 0) (fCons (fC (.int 0)) (fCons (fC (.int 1000000000000)) fNil)))))
theorem ar_is_number : Ar 1 F_is_number := ar_runF
def F_is_name : List D → M D := runF 1 2 (sSeq (fIf (fOr (fNot (f1 dTru (f1 (dIsi kOwn kErs kTb) (fCons (fVar 0) (fCons (fC (.ty "str")) fNil))))) (fNot (f1 dBool (fChain dLe dLe (fC (.int 1)) (f1 dLen (fCons (fVar 0) fNil)) (fC (.int 8)))))) (sRet (fC (.bl false))) sNext) (sRet (f1 dAll (fCons (fLc (f1 dItems (fVar 0)) (.nm 1) fYes (f2 dIn (fVar 1) (fC (.str "abcdefghijklmnopqrstuvwxyz")))) fNil))))
theorem ar_is_name : Ar 1 F_is_name := ar_runF
def F_Trip_init : List D → M D := runF 6 6 (sSeq (fIf (fNot (f1 dTru (f1 F_is_name (fCons (fVar 1) fNil)))) (sRaise1 3 "part" (fCons (fC (.str "name")) fNil)) sNext) (sSeq (fIf (fOr (fNot (f1 dTru (f1 F_is_name (fCons (fVar 2) fNil)))) (fNot (f1 dTru (f1 F_is_name (fCons (fVar 5) fNil))))) (sRaise1 3 "part" (fCons (fC (.str "place")) fNil)) sNext) (sSeq (fIf (fNot (f1 dTru (f1 F_is_number (fCons (fVar 3) fNil)))) (sRaise1 3 "part" (fCons (fC (.str "leaves")) fNil)) sNext) (sSeq (fIf (fNot (f1 dTru (f1 F_is_between (fCons (fVar 4) (fCons (fC (.int 1)) (fCons (fC (.int 1000000000000)) fNil)))))) (sRaise1 3 "part" (fCons (fC (.str "takes")) fNil)) sNext) (sSeq (sSetF [6, 8, 9] "name" (fVar 0) (fVar 1)) (sSeq (sSetF [6, 8, 9] "start" (fVar 0) (fVar 2)) (sSeq (sSetF [6, 8, 9] "leaves" (fVar 0) (fVar 3)) (sSeq (sSetF [6, 8, 9] "takes" (fVar 0) (fVar 4)) (sSetF [6, 8, 9] "goal" (fVar 0) (fVar 5))))))))))
theorem ar_Trip_init : Ar 6 F_Trip_init := ar_runF
def F_Trip_eq : List D → M D := runF 2 2 (sSeq (fIf (fOr (fNot (f1 dTru (f1 (dIsi kOwn kErs kTb) (fCons (fVar 1) (fCons (fC (.cls 6)) fNil))))) (fOr (f1 dBool (f2 dNe (f1 (dCon [(6, .str "trip"), (8, .str "run"), (9, .str "stay")] "WORD") (fVar 0)) (f1 (dCon [(6, .str "trip"), (8, .str "run"), (9, .str "stay")] "WORD") (fVar 1)))) (f1 dBool (f2 dNe (f1 (dFld [6, 8, 9] "name") (fVar 0)) (f1 (dFld [6, 8, 9] "name") (fVar 1)))))) (sRet (fC (.bl false))) sNext) (sRet (f2 dEq (fTup (fCons (f1 (dFld [6, 8, 9] "start") (fVar 0)) (fCons (f1 (dFld [6, 8, 9] "leaves") (fVar 0)) (fCons (f1 (dFld [6, 8, 9] "takes") (fVar 0)) (fCons (f1 (dFld [6, 8, 9] "goal") (fVar 0)) fNil))))) (fTup (fCons (f1 (dFld [6, 8, 9] "start") (fVar 1)) (fCons (f1 (dFld [6, 8, 9] "leaves") (fVar 1)) (fCons (f1 (dFld [6, 8, 9] "takes") (fVar 1)) (fCons (f1 (dFld [6, 8, 9] "goal") (fVar 1)) fNil))))))))
theorem ar_Trip_eq : Ar 2 F_Trip_eq := ar_runF
def F_Trip_str : List D → M D := runF 1 1 (sRet (fJs [(f1 dFmt (f1 (dCon [(6, .str "trip"), (8, .str "run"), (9, .str "stay")] "WORD") (fVar 0))), (fC (.str " ")), (f1 dFmt (f1 (dFld [6, 8, 9] "name") (fVar 0))), (fC (.str " ")), (f1 dFmt (f1 (dFld [6, 8, 9] "start") (fVar 0))), (fC (.str " ")), (f1 dFmt (f1 (dFld [6, 8, 9] "leaves") (fVar 0))), (fC (.str " ")), (f1 dFmt (f1 (dFld [6, 8, 9] "takes") (fVar 0)))] Str.empty))
theorem ar_Trip_str : Ar 1 F_Trip_str := ar_runF
def F_Run_init : List D → M D := runSup 6 6 8 (fCons (fVar 1) (fCons (fVar 2) (fCons (fVar 3) (fCons (fVar 4) (fCons (fVar 5) fNil))))) F_Trip_init
theorem ar_Run_init : Ar 6 F_Run_init := ar_runSup
def F_Run_str : List D → M D := runF 1 1 (sRet (fJs [(f1 dFmt (f1 (dCon [(8, .str "run")] "WORD") (fVar 0))), (fC (.str " ")), (f1 dFmt (f1 (dFld [8] "name") (fVar 0))), (fC (.str " ")), (f1 dFmt (f1 (dFld [8] "start") (fVar 0))), (fC (.str " ")), (f1 dFmt (f1 (dFld [8] "leaves") (fVar 0))), (fC (.str " ")), (f1 dFmt (f1 (dFld [8] "takes") (fVar 0))), (fC (.str " ")), (f1 dFmt (f1 (dFld [8] "goal") (fVar 0)))] Str.empty))
theorem ar_Run_str : Ar 1 F_Run_str := ar_runF
def F_Stay_init : List D → M D := runSup 5 5 9 (fCons (fVar 1) (fCons (fVar 2) (fCons (fVar 3) (fCons (fVar 4) (fCons (fVar 2) fNil))))) F_Trip_init
theorem ar_Stay_init : Ar 5 F_Stay_init := ar_runSup
def F_pen : List D → M D := runF 1 1 (sRet (fLstM (fCons (f1 dList (fCons (fSl (fVar 0) (fun _ => M.ret none) (f1 dPart (fC (.int 63)))) fNil)) (fCons (fC (.int 0)) (fCons (fC (.int 0)) fNil)))))
theorem ar_pen : Ar 1 F_pen := ar_runF
def F_draw : List D → M D := runF 2 7 (sSeq (fIf (f1 dBool (f2 dGt (f2 dIx (fVar 0) (fC (.int 2))) (fC (.int 0)))) (sSeq (sAsg (.nm 5) (f2 dMod (f1 dInt (fCons (f2 dIx (fVar 0) (fC (.int 2))) fNil)) (fVar 1))) (sSeq (sSetI (fVar 0) (fC (.int 2)) (f2 dFdiv (f1 dInt (fCons (f2 dIx (fVar 0) (fC (.int 2))) fNil)) (fVar 1))) (sRet (fVar 5)))) sNext) (sSeq (sAsg (.nm 2) (f2 dIx (fVar 0) (fC (.int 1)))) (sSeq (sSetI (fVar 0) (fC (.int 1)) (f2 dAdd (fVar 2) (fC (.int 1)))) (sSeq (sAsg (.nm 3) (f2 dAdd (f2 dMul (fC (.int 44701)) (fVar 2)) (fC (.int 2159)))) (sSeq (fIf (f1 dBool (f2 dNe (f2 dIx (fVar 0) (fC (.int 0))) (fLst fNil))) (sAsg (.nm 3) (f2 dIx (f2 dIx (fVar 0) (fC (.int 0))) (f2 dMod (f1 dInt (fCons (fVar 2) fNil)) (f1 dLen (fCons (f2 dIx (fVar 0) (fC (.int 0))) fNil))))) sNext) (sSeq (fIf (fAnd (f1 dBool (f2 dLt (fVar 2) (f1 dLen (fCons (f2 dIx (fVar 0) (fC (.int 0))) fNil)))) (f1 dBool (f2 dGe (f1 dAbs (fCons (fVar 3) fNil)) (f2 dPow (fC (.int 10)) (fC (.int 18)))))) (sSeq (sAsg (.nm 6) (f2 dAdd (f2 dMul (fC (.int 2)) (f2 dSub (f1 dAbs (fCons (fVar 3) fNil)) (f2 dPow (fC (.int 10)) (fC (.int 18))))) (f1 dInt (fCons (f2 dLt (fVar 3) (fC (.int 0))) fNil)))) (sSeq (sSetI (fVar 0) (fC (.int 2)) (f2 dFdiv (f1 dInt (fCons (fVar 6) fNil)) (fVar 1))) (sRet (f2 dMod (f1 dInt (fCons (fVar 6) fNil)) (fVar 1))))) sNext) (sSeq (sAsg (.nm 4) (f2 dMod (f1 dInt (fCons (f2 dPow (f2 dAdd (f2 dAdd (f2 dMod (f1 dInt (fCons (fVar 3) fNil)) (fC (.int 2147483563))) (f2 dMul (fC (.int 61369)) (fVar 2))) (fC (.int 857))) (fC (.int 5))) fNil)) (fC (.int 2147483629)))) (sSeq (sAsg (.nm 4) (f2 dMod (f1 dInt (fCons (f2 dPow (f2 dAdd (f2 dAdd (f2 dMul (fVar 4) (f2 dAdd (f2 dMul (fC (.int 2)) (fVar 2)) (fC (.int 235)))) (f2 dMul (f2 dMul (fC (.int 36187)) (fVar 2)) (fVar 2))) (fC (.int 71))) (fC (.int 3))) fNil)) (fC (.int 2147483587)))) (sRet (f2 dMod (f1 dInt (fCons (f2 dFdiv (fVar 4) (fC (.int 32))) fNil)) (fVar 1)))))))))))
theorem ar_draw : Ar 2 F_draw := ar_runF
def F_pick : List D → M D := runF 2 2 (sRet (f2 dIx (fVar 1) (f1 F_draw (fCons (fVar 0) (fCons (f1 dLen (fCons (fVar 1) fNil)) fNil)))))
theorem ar_pick : Ar 2 F_pick := ar_runF
def F_title : List D → M D := runF 1 2 (sSeq (sAsg (.nm 1) (fLst (fCons (fC (.str "a")) (fCons (fC (.str "b")) (fCons (fC (.str "p")) (fCons (fC (.str "run")) (fCons (fC (.str "stay")) (fCons (fC (.str "day")) (fCons (fC (.str "pauses")) (fCons (fC (.str "zz")) (fCons (fC (.str "zzzzzzzz")) (fCons (fC (.str "self")) (fCons (fC (.str "ab")) (fCons (fC (.str "abcdefgh")) (fCons (fC (.str "x")) fNil))))))))))))))) (sRet (f1 F_pick (fCons (fVar 0) (fCons (fVar 1) fNil)))))
theorem ar_title : Ar 1 F_title := ar_runF
def F_number : List D → M D := runF 2 2 (sRet (f1 dMax2 (fCons (f1 dInt (fCons (fVar 1) fNil)) (fCons (f1 F_pick (fCons (fVar 0) (fCons (fLst (fCons (fC (.int 0)) (fCons (fC (.int 1)) (fCons (fC (.int 2)) (fCons (f1 F_draw (fCons (fVar 0) (fCons (fC (.int 100)) fNil))) (fCons (fC (.int 1439)) (fCons (f2 dPow (fC (.int 10)) (fC (.int 12))) (fCons (f2 dSub (f2 dPow (fC (.int 10)) (fC (.int 12))) (f1 F_draw (fCons (fVar 0) (fCons (fC (.int 9)) fNil)))) fNil)))))))) fNil))) fNil))))
theorem ar_number : Ar 2 F_number := ar_runF
def F_kinds : List D → M D := runF 1 1 (sRet (fLst (fCons (f1 (dIsi kOwn kErs kTb) (fCons (fVar 0) (fCons (fC (.cls 6)) fNil))) (fCons (f1 (dIsi kOwn kErs kTb) (fCons (fVar 0) (fCons (fC (.cls 7)) fNil))) (fCons (f1 (dIsi kOwn kErs kTb) (fCons (fVar 0) (fCons (fC (.cls 8)) fNil))) (fCons (f1 (dIsi kOwn kErs kTb) (fCons (fVar 0) (fCons (fC (.cls 9)) fNil))) fNil))))))
theorem ar_kinds : Ar 1 F_kinds := ar_runF
def F_parts : List D → M D := runF 1 1 (sRet (f1 dRepr (fCons (fLst (fCons (f1 (dFld [6, 8, 9] "name") (fVar 0)) (fCons (f1 (dFld [6, 8, 9] "start") (fVar 0)) (fCons (f1 (dFld [6, 8, 9] "leaves") (fVar 0)) (fCons (f1 (dFld [6, 8, 9] "takes") (fVar 0)) (fCons (f1 (dFld [6, 8, 9] "goal") (fVar 0)) fNil)))))) fNil)))
theorem ar_parts : Ar 1 F_parts := ar_runF
def L_run_right_0 : Env8 → M Fl := (sSeq (sAsg (.nm 11) (f1 dListM (fCons (fVar 1) fNil))) (sSeq (sSetI (fVar 11) (fVar 4) (fIf (f1 dBool (f2 dIn (fVar 4) (fTup (fCons (fC (.int 0)) (fCons (fC (.int 1)) (fCons (fC (.int 4)) fNil)))))) (f1 F_title (fCons (fVar 0) fNil)) (f1 F_number (fCons (fVar 0) (fCons (fC (.int 1)) fNil))))) (sSeq (sAsg (.nm 12) (f1 (mkIns 8 F_Run_init) (fCons (f2 dIx (fVar 11) (fC (.int 0))) (fCons (f2 dIx (fVar 11) (fC (.int 1))) (fCons (f2 dIx (fVar 11) (fC (.int 2))) (fCons (f2 dIx (fVar 11) (fC (.int 3))) (fCons (f2 dIx (fVar 11) (fC (.int 4))) fNil))))))) (fIf (fOr (f1 dBool (f2 dNe (f2 (dOwn 8 kOwn nfRun F_Trip_eq) (fVar 2) (fVar 12)) (f2 dEq (fVar 11) (fVar 1)))) (f1 dBool (f2 dEq (f2 (dOwnB 8 kOwn nfRun F_Trip_eq true) (fVar 2) (fVar 12)) (f2 dEq (fVar 11) (fVar 1))))) (sRet (fC (.bl false))) sNext))))
def F_run_right : List D → M D := runG 2 14 (sSeq (sAsg (.tp [(.nm 6), (.nm 7), (.nm 8), (.nm 9), (.nm 10)]) (fVar 1)) (sSeq (sAsg (.nm 2) (f1 (mkIns 8 F_Run_init) (fCons (fVar 6) (fCons (fVar 7) (fCons (fVar 8) (fCons (fVar 9) (fCons (fVar 10) fNil))))))) (sSeq (fIf (fOr (f1 dBool (f2 dNe (f1 F_parts (fCons (fVar 2) fNil)) (f1 dRepr (fCons (fVar 1) fNil)))) (f1 dBool (f2 dNe (f1 F_kinds (fCons (fVar 2) fNil)) (fLst (fCons (fC (.bl true)) (fCons (fC (.bl true)) (fCons (fC (.bl true)) (fCons (fC (.bl false)) fNil)))))))) (sRet (fC (.bl false))) sNext) (sSeq (fIf (f1 dBool (f2 dNe (f1 (dStrO 8 F_Run_str) (fCons (fVar 2) fNil)) (fun env => ((fC (.str " ")) env).bnd fun a => match a with | .str s => ((fLst (fCons (fC (.str "run")) (fCons (fVar 6) (fCons (fVar 7) (fCons (f1 dStr (fCons (fVar 8) fNil)) (fCons (f1 dStr (fCons (fVar 9) fNil)) (fCons (fVar 10) fNil))))))) env).bnd fun b => dJoin (.str s) b | _ => M.bad))) (sRet (fC (.bl false))) sNext) (sSeq (sAsg (.nm 3) (f1 (mkIns 8 F_Run_init) (fKw 0 5 [4, 3, 2, 1, 0] fNil (fCons (fVar 10) (fCons (fVar 9) (fCons (fVar 8) (fCons (fVar 7) (fCons (fVar 6) fNil)))))))) (sSeq (fIf (fOr (f1 dBool (f2 (dOwnB 8 kOwn nfRun F_Trip_eq true) (fVar 2) (fVar 3))) (fNot (f1 dBool (f2 (dOwn 8 kOwn nfRun F_Trip_eq) (fVar 2) (fVar 3))))) (sRet (fC (.bl false))) sNext) (sSeq (sFor (f1 dRange1 (fCons (fC (.int 5)) fNil)) (.nm 4) L_run_right_0) (sSeq (sAsg (.nm 5) (fLst (fCons (fC .non) (fCons (fC (.int 0)) (fCons (f1 (dStrO 8 F_Run_str) (fCons (fVar 2) fNil)) (fCons (f1 dTuple (fCons (fVar 1) fNil)) (fCons (fVar 1) (fCons (f1 (mkIns 9 F_Stay_init) (fCons (fVar 6) (fCons (fVar 7) (fCons (fVar 8) (fCons (fVar 9) fNil))))) fNil)))))))) (sRet (f2 dEq (fLc (f1 dItems (fVar 5)) (.nm 13) (f1 dBool (f2 (dOwn 8 kOwn nfRun F_Trip_eq) (fVar 2) (fVar 13))) (fVar 13)) (fLst fNil)))))))))))
theorem ar_run_right : Ar 2 F_run_right := ar_runG
def L_stay_right_0 : Env8 → M Fl := (sSeq (sAsg (.nm 8) (f1 dListM (fCons (fSl (fVar 1) (fun _ => M.ret none) (f1 dPart (fC (.int 4)))) fNil))) (sSeq (sSetI (fVar 8) (fVar 3) (fIf (f1 dBool (f2 dLt (fVar 3) (fC (.int 2)))) (f1 F_title (fCons (fVar 0) fNil)) (f1 F_number (fCons (fVar 0) (fCons (fC (.int 1)) fNil))))) (sSeq (sAsg (.nm 9) (f1 (mkIns 9 F_Stay_init) (fCons (f2 dIx (fVar 8) (fC (.int 0))) (fCons (f2 dIx (fVar 8) (fC (.int 1))) (fCons (f2 dIx (fVar 8) (fC (.int 2))) (fCons (f2 dIx (fVar 8) (fC (.int 3))) fNil)))))) (fIf (fOr (f1 dBool (f2 dNe (f2 (dOwn 9 kOwn nfStay F_Trip_eq) (fVar 2) (fVar 9)) (f2 dEq (fVar 8) (fSl (fVar 1) (fun _ => M.ret none) (f1 dPart (fC (.int 4))))))) (f1 dBool (f2 dEq (f2 (dOwnB 9 kOwn nfStay F_Trip_eq true) (fVar 9) (fVar 2)) (f2 dEq (fVar 8) (fSl (fVar 1) (fun _ => M.ret none) (f1 dPart (fC (.int 4)))))))) (sRet (fC (.bl false))) sNext))))
def F_stay_right : List D → M D := runG 2 11 (sSeq (sAsg (.tp [(.nm 4), (.nm 5), (.nm 6), (.nm 7)]) (fSl (fVar 1) (fun _ => M.ret none) (f1 dPart (fC (.int 4))))) (sSeq (sAsg (.nm 2) (f1 (mkIns 9 F_Stay_init) (fCons (fVar 4) (fCons (fVar 5) (fCons (fVar 6) (fCons (fVar 7) fNil)))))) (sSeq (fIf (fOr (f1 dBool (f2 dNe (f1 F_parts (fCons (fVar 2) fNil)) (f1 dRepr (fCons (fLst (fCons (fVar 4) (fCons (fVar 5) (fCons (fVar 6) (fCons (fVar 7) (fCons (fVar 5) fNil)))))) fNil)))) (f1 dBool (f2 dNe (f1 F_kinds (fCons (fVar 2) fNil)) (fLst (fCons (fC (.bl true)) (fCons (fC (.bl false)) (fCons (fC (.bl false)) (fCons (fC (.bl true)) fNil)))))))) (sRet (fC (.bl false))) sNext) (sSeq (fIf (f1 dBool (f2 dNe (f1 (dStrO 9 F_Trip_str) (fCons (fVar 2) fNil)) (fun env => ((fC (.str " ")) env).bnd fun a => match a with | .str s => ((fLst (fCons (fC (.str "stay")) (fCons (fVar 4) (fCons (fVar 5) (fCons (f1 dStr (fCons (fVar 6) fNil)) (fCons (f1 dStr (fCons (fVar 7) fNil)) fNil)))))) env).bnd fun b => dJoin (.str s) b | _ => M.bad))) (sRet (fC (.bl false))) sNext) (sSeq (fIf (f1 dBool (f2 (dOwnB 9 kOwn nfStay F_Trip_eq true) (fVar 2) (f1 (mkIns 9 F_Stay_init) (fKw 0 4 [3, 2, 1, 0] fNil (fCons (fVar 7) (fCons (fVar 6) (fCons (fVar 5) (fCons (fVar 4) fNil)))))))) (sRet (fC (.bl false))) sNext) (sSeq (sFor (f1 dRange1 (fCons (fC (.int 4)) fNil)) (.nm 3) L_stay_right_0) (sRet (f2 dEq (fLc (f1 dItems (fLst (fCons (fC .non) (fCons (fC (.bl true)) (fCons (f1 (dStrO 9 F_Trip_str) (fCons (fVar 2) fNil)) (fCons (fVar 1) (fCons (f1 (mkIns 8 F_Run_init) (fCons (fVar 4) (fCons (fVar 5) (fCons (fVar 6) (fCons (fVar 7) (fCons (fVar 5) fNil)))))) fNil))))))) (.nm 10) (f1 dBool (f2 (dOwn 9 kOwn nfStay F_Trip_eq) (fVar 2) (fVar 10))) (fVar 10)) (fLst fNil)))))))))
theorem ar_stay_right : Ar 2 F_stay_right := ar_runG
def L_law_0 : Env8 → M Fl := (sSeq (sAsg (.nm 3) (fLst (fCons (f1 F_title (fCons (fVar 1) fNil)) (fCons (f1 F_title (fCons (fVar 1) fNil)) (fCons (f1 F_number (fCons (fVar 1) (fCons (fC (.int 0)) fNil))) (fCons (f1 F_number (fCons (fVar 1) (fCons (fC (.int 1)) fNil))) (fCons (f1 F_title (fCons (fVar 1) fNil)) fNil))))))) (fIf (fOr (fNot (f1 dTru (f1 F_run_right (fCons (fVar 1) (fCons (fVar 3) fNil))))) (fNot (f1 dTru (f1 F_stay_right (fCons (fVar 1) (fCons (fVar 3) fNil)))))) (sRet (fC (.bl false))) sNext))
def F_law : List D → M D := runF 1 4 (sSeq (sAsg (.nm 1) (f1 F_pen (fCons (fVar 0) fNil))) (sSeq (sFor (f1 dRange1 (fCons (fC (.int 10)) fNil)) (.nm 2) L_law_0) (sRet (fAndV (f2 dEq (f1 (dStrO 8 F_Run_str) (fCons (f1 (mkIns 8 F_Run_init) (fCons (fC (.str "p")) (fCons (fC (.str "a")) (fCons (fC (.int 0)) (fCons (fC (.int 1)) (fCons (fC (.str "a")) fNil)))))) fNil)) (fC (.str "run p a 0 1 a"))) (f2 dEq (f1 (dStrO 9 F_Trip_str) (fCons (f1 (mkIns 9 F_Stay_init) (fCons (fC (.str "self")) (fCons (fC (.str "self")) (fCons (fC (.int 5)) (fCons (f2 dPow (fC (.int 10)) (fC (.int 12))) fNil))))) fNil)) (fC (.str "stay self self 5 1000000000000")))))))
theorem ar_law : Ar 1 F_law := ar_runF
section
variable {P : Program} {wo : World} {K : PySem.W.Frag} {mg : Str → Option Value} {base : Heap} {A : Ad} {D0 : Fd}
theorem K8 (T : Txt P K mg A D0) : Kinds (W8 K A) kOwn kErs kTb := ⟨(iso_cons T.is_Trip (iso_cons T.is_Run (iso_cons T.is_Stay iso_nil))), (errs_cons T.er_BadTrip.ex errs_nil), (kit_cons T.kq_tNoneType_Paused (kit_cons T.kq_tbool_Paused (kit_cons T.kq_tint_Paused (kit_cons T.kq_tstr_Paused (kit_cons T.kq_tlist_Paused (kit_cons T.kq_ttuple_Paused (kit_cons T.kq_tdict_Paused (kit_cons T.kq_Trip_Paused (kit_cons T.kq_Run_Paused (kit_cons T.kq_Stay_Paused (kit_cons T.kq_BadTrip_Paused (kit_cons T.kq_tNoneType_Run (kit_cons T.kq_tbool_Run (kit_cons T.kq_tint_Run (kit_cons T.kq_tstr_Run (kit_cons T.kq_tlist_Run (kit_cons T.kq_ttuple_Run (kit_cons T.kq_tdict_Run (kit_cons T.kq_Trip_Run (kit_cons T.kq_Run_Run (kit_cons T.kq_Stay_Run (kit_cons T.kq_BadTrip_Run (kit_cons T.kq_tNoneType_Stay (kit_cons T.kq_tbool_Stay (kit_cons T.kq_tint_Stay (kit_cons T.kq_tstr_Stay (kit_cons T.kq_tlist_Stay (kit_cons T.kq_ttuple_Stay (kit_cons T.kq_tdict_Stay (kit_cons T.kq_Trip_Stay (kit_cons T.kq_Run_Stay (kit_cons T.kq_Stay_Stay (kit_cons T.kq_BadTrip_Stay (kit_cons T.kq_tNoneType_Trip (kit_cons T.kq_tbool_Trip (kit_cons T.kq_tint_Trip (kit_cons T.kq_tstr_Trip (kit_cons T.kq_tlist_Trip (kit_cons T.kq_ttuple_Trip (kit_cons T.kq_tdict_Trip (kit_cons T.kq_Trip_Trip (kit_cons T.kq_Run_Trip (kit_cons T.kq_Stay_Trip (kit_cons T.kq_BadTrip_Trip (kit_cons (kit_ty (by decide +kernel)) (kit_cons (kit_ty (by decide +kernel)) (kit_cons (kit_ty (by decide +kernel)) (kit_cons (kit_ty (by decide +kernel)) (kit_cons (kit_ty (by decide +kernel)) (kit_cons (kit_ty (by decide +kernel)) (kit_cons (kit_ty (by decide +kernel)) (kit_cons T.kq_Trip_tbool (kit_cons T.kq_Run_tbool (kit_cons T.kq_Stay_tbool (kit_cons T.kq_BadTrip_tbool (kit_cons (kit_ty (by decide +kernel)) (kit_cons (kit_ty (by decide +kernel)) (kit_cons (kit_ty (by decide +kernel)) (kit_cons (kit_ty (by decide +kernel)) (kit_cons (kit_ty (by decide +kernel)) (kit_cons (kit_ty (by decide +kernel)) (kit_cons (kit_ty (by decide +kernel)) (kit_cons T.kq_Trip_tint (kit_cons T.kq_Run_tint (kit_cons T.kq_Stay_tint (kit_cons T.kq_BadTrip_tint (kit_cons (kit_ty (by decide +kernel)) (kit_cons (kit_ty (by decide +kernel)) (kit_cons (kit_ty (by decide +kernel)) (kit_cons (kit_ty (by decide +kernel)) (kit_cons (kit_ty (by decide +kernel)) (kit_cons (kit_ty (by decide +kernel)) (kit_cons (kit_ty (by decide +kernel)) (kit_cons T.kq_Trip_tstr (kit_cons T.kq_Run_tstr (kit_cons T.kq_Stay_tstr (kit_cons T.kq_BadTrip_tstr kit_nil)))))))))))))))))))))))))))))))))))))))))))))))))))))))))))))))))))))))))))))⟩
theorem nf_Run (T : Txt P K mg A D0) : NfOk (W8 K A) 8 nfRun := nf_self (nf_cons T.sb_Run_tNoneType (nf_cons T.sb_Run_tbool (nf_cons T.sb_Run_tint (nf_cons T.sb_Run_tstr (nf_cons T.sb_Run_tlist (nf_cons T.sb_Run_ttuple (nf_cons T.sb_Run_tdict (nf_cons T.sb_Run_Trip (nf_cons T.sb_Run_Stay nf_nil)))))))))
theorem nf_Stay (T : Txt P K mg A D0) : NfOk (W8 K A) 9 nfStay := nf_self (nf_cons T.sb_Stay_tNoneType (nf_cons T.sb_Stay_tbool (nf_cons T.sb_Stay_tint (nf_cons T.sb_Stay_tstr (nf_cons T.sb_Stay_tlist (nf_cons T.sb_Stay_ttuple (nf_cons T.sb_Stay_tdict (nf_cons T.sb_Stay_Trip (nf_cons T.sb_Stay_Run nf_nil)))))))))
theorem ok_is_integer (T : Txt P K mg A D0) : FnOk P wo K mg base (L2.CX P wo) 1 A.is_integer D0.is_integer ["value"] (spM (W8 K A) 1 F_is_integer) := by
  refine fn_ok (wd := W8 K A) T.f_is_integer sc_is_integer (by decide) (fun cdv Ar outer s H E hr => ?_)
  exact (pmss_one (pms_ret (pm_and (pm_b (b_isi rfl (K8 T)) rfl T.n_isinstance bt_isinstance (pma_cons (pm_var (pv 0)) (pma_cons (pm_c (pe_bltn (v := .ty "int") rfl T.n_int bt_int rfl) (fun _ => rep_ty)) pma_nil))) (pm_one (pm_not (pm_b (b_isi rfl (K8 T)) rfl T.n_isinstance bt_isinstance (pma_cons (pm_var (pv 0)) (pma_cons (pm_c (pe_bltn (v := .ty "bool") rfl T.n_bool bt_bool rfl) (fun _ => rep_ty)) pma_nil))))))))
theorem ok_is_between (T : Txt P K mg A D0) : FnOk P wo K mg base (L2.CX P wo) 2 A.is_between D0.is_between ["value", "low", "high"] (spM (W8 K A) 3 F_is_between) := by
  refine fn_ok (wd := W8 K A) T.f_is_between sc_is_between (by decide) (fun cdv Ar outer s H E hr => ?_)
  exact (pmss_one (pms_ret (pm_and (pm_call (ok_is_integer T) ar_is_integer (hr.mono (by decide)) rfl T.m_is_integer T.f_is_integer.kp T.b_is_integer (passes_call (takes_of rfl rfl rfl rfl) (fun _ _ _ _ h => h)) (pma_cons (pm_var (pv 0)) pma_nil)) (pm_one (pm_cmp2 c_le c_le (pm_var (pv 1)) (pm_var (pv 0)) (pm_var (pv 2)))))))
theorem ok_is_number (T : Txt P K mg A D0) : FnOk P wo K mg base (L2.CX P wo) 3 A.is_number D0.is_number ["value"] (spM (W8 K A) 1 F_is_number) := by
  refine fn_ok (wd := W8 K A) T.f_is_number sc_is_number (by decide) (fun cdv Ar outer s H E hr => ?_)
  exact (pmss_one (pms_ret (pm_call (ok_is_between T) ar_is_between (hr.mono (by decide)) rfl T.m_is_between T.f_is_between.kp T.b_is_between (passes_call (takes_of rfl rfl rfl rfl) (fun _ _ _ _ h => h)) (pma_cons (pm_var (pv 0)) (pma_cons pm_int (pma_cons (pm_c (pe_gi rfl T.g_MOST_NUMBER) (fun _ => rep_int)) pma_nil))))))
theorem ok_is_name (T : Txt P K mg A D0) : FnOk P wo K mg base (L2.CX P wo) 1 A.is_name D0.is_name ["value"] (spM (W8 K A) 1 F_is_name) := by
  refine fn_ok (wd := W8 K A) T.f_is_name sc_is_name (by decide) (fun cdv Ar outer s H E hr => ?_)
  exact (pmss_cons (pms_if (PW.pt (pmw_or (pmt_not (pmt_truth rfl (pm_b (b_isi rfl (K8 T)) rfl T.n_isinstance bt_isinstance (pma_cons (pm_var (pv 0)) (pma_cons (pm_c (pe_bltn (v := .ty "str") rfl T.n_str bt_str rfl) (fun _ => rep_ty)) pma_nil))))) (pmw_or1 (pmt_not (pmt_cm2 c_le c_le pm_int (pm_b (b_len rfl) rfl T.n_len bt_len (pma_cons (pm_var (pv 0)) pma_nil)) pm_int))))) (pmss_one (pms_ret pm_bl)) pmss_nil) (pmss_one (pms_ret (pm_b (b_all rfl rfl) rfl T.n_all bt_all (pma_cons (pm_lc (own := [("sign", 1)]) (p := (.nm 1)) rfl sc_is_name.nd (pmi_seq rfl (pm_var (pv 0))) (blkOk_by (own := [("sign", 1)]) (N := ["value", "sign"]) (sc := defScope s_is_name) (by decide +kernel)) (by rfl) (fun _ _ _ _ _ => (pgm_nm (i := 1) sc_is_name.nd rfl (Or.inl rfl))) (fun _ _ _ _ _ => pmts_nil) (fun _ _ _ _ _ => (pm_cmp (c_in rfl) (pm_var (pv 1)) (pm_c (pe_gs rfl T.g_LETTERS) (fun _ => rep_str)) (by rfl)))) pma_nil)))))
theorem ok_BadTrip_init (T : Txt P K mg A D0) : FnOk P wo K mg base CX0 1 A.BadTrip_init D0.BadTrip_init ["self", "part"] (spErr1 A.BadTrip "part") :=
  err1_ok T.f_BadTrip_init sc_BadTrip_init rfl rfl rfl T.ms T.op T.er_BadTrip.se T.nf_BadTrip_part
theorem ok_Trip_init (T : Txt P K mg A D0) : FnOk P wo K mg base (L2.CX P wo) 4 A.Trip_init D0.Trip_init ["self", "name", "start", "leaves", "takes", "goal"] (spM (W8 K A) 6 F_Trip_init) := by
  refine fn_ok (wd := W8 K A) T.f_Trip_init sc_Trip_init (by decide) (fun cdv Ar outer s H E hr => ?_)
  exact (pmss_cons (pms_if (pmt_not (pmt_truth rfl (pm_call (ok_is_name T) ar_is_name (hr.mono (by decide)) rfl T.m_is_name T.f_is_name.kp T.b_is_name (passes_call (takes_of rfl rfl rfl rfl) (fun _ _ _ _ h => h)) (pma_cons (pm_var (pv 1)) pma_nil)))) (pmss_one (pms_raise1 (c := 3) rfl (takes_of rfl rfl rfl rfl) T.er_BadTrip (ok_BadTrip_init T) (hr.mono (by decide)) T.b_BadTrip_init rfl T.m_BadTrip (pma_cons pm_str pma_nil))) pmss_nil) (pmss_cons (pms_if (PW.pt (pmw_or (pmt_not (pmt_truth rfl (pm_call (ok_is_name T) ar_is_name (hr.mono (by decide)) rfl T.m_is_name T.f_is_name.kp T.b_is_name (passes_call (takes_of rfl rfl rfl rfl) (fun _ _ _ _ h => h)) (pma_cons (pm_var (pv 2)) pma_nil)))) (pmw_or1 (pmt_not (pmt_truth rfl (pm_call (ok_is_name T) ar_is_name (hr.mono (by decide)) rfl T.m_is_name T.f_is_name.kp T.b_is_name (passes_call (takes_of rfl rfl rfl rfl) (fun _ _ _ _ h => h)) (pma_cons (pm_var (pv 5)) pma_nil))))))) (pmss_one (pms_raise1 (c := 3) rfl (takes_of rfl rfl rfl rfl) T.er_BadTrip (ok_BadTrip_init T) (hr.mono (by decide)) T.b_BadTrip_init rfl T.m_BadTrip (pma_cons pm_str pma_nil))) pmss_nil) (pmss_cons (pms_if (pmt_not (pmt_truth rfl (pm_call (ok_is_number T) ar_is_number (hr.mono (by decide)) rfl T.m_is_number T.f_is_number.kp T.b_is_number (passes_call (takes_of rfl rfl rfl rfl) (fun _ _ _ _ h => h)) (pma_cons (pm_var (pv 3)) pma_nil)))) (pmss_one (pms_raise1 (c := 3) rfl (takes_of rfl rfl rfl rfl) T.er_BadTrip (ok_BadTrip_init T) (hr.mono (by decide)) T.b_BadTrip_init rfl T.m_BadTrip (pma_cons pm_str pma_nil))) pmss_nil) (pmss_cons (pms_if (pmt_not (pmt_truth rfl (pm_call (ok_is_between T) ar_is_between (hr.mono (by decide)) rfl T.m_is_between T.f_is_between.kp T.b_is_between (passes_call (takes_of rfl rfl rfl rfl) (fun _ _ _ _ h => h)) (pma_cons (pm_var (pv 4)) (pma_cons pm_int (pma_cons (pm_c (pe_gi rfl T.g_MOST_NUMBER) (fun _ => rep_int)) pma_nil)))))) (pmss_one (pms_raise1 (c := 3) rfl (takes_of rfl rfl rfl rfl) T.er_BadTrip (ok_BadTrip_init T) (hr.mono (by decide)) T.b_BadTrip_init rfl T.m_BadTrip (pma_cons pm_str pma_nil))) pmss_nil) (pmss_cons (pms_fld rfl (attr_cons T.cl_Trip T.na_Trip_name (attr_cons T.cl_Run T.na_Run_name (attr_cons T.cl_Stay T.na_Stay_name attr_nil))) (pm_var (pv 0)) (pm_var (pv 1)) rfl) (pmss_cons (pms_fld rfl (attr_cons T.cl_Trip T.na_Trip_start (attr_cons T.cl_Run T.na_Run_start (attr_cons T.cl_Stay T.na_Stay_start attr_nil))) (pm_var (pv 0)) (pm_var (pv 2)) rfl) (pmss_cons (pms_fld rfl (attr_cons T.cl_Trip T.na_Trip_leaves (attr_cons T.cl_Run T.na_Run_leaves (attr_cons T.cl_Stay T.na_Stay_leaves attr_nil))) (pm_var (pv 0)) (pm_var (pv 3)) rfl) (pmss_cons (pms_fld rfl (attr_cons T.cl_Trip T.na_Trip_takes (attr_cons T.cl_Run T.na_Run_takes (attr_cons T.cl_Stay T.na_Stay_takes attr_nil))) (pm_var (pv 0)) (pm_var (pv 4)) rfl) (pmss_one (pms_fld rfl (attr_cons T.cl_Trip T.na_Trip_goal (attr_cons T.cl_Run T.na_Run_goal (attr_cons T.cl_Stay T.na_Stay_goal attr_nil))) (pm_var (pv 0)) (pm_var (pv 5)) rfl))))))))))
theorem ok_Trip_eq (T : Txt P K mg A D0) : FnOk P wo K mg base (L2.CX P wo) 1 A.Trip_eq D0.Trip_eq ["self", "other"] (spM (W8 K A) 2 F_Trip_eq) := by
  refine fn_ok (wd := W8 K A) T.f_Trip_eq sc_Trip_eq (by decide) (fun cdv Ar outer s H E hr => ?_)
  exact (pmss_cons (pms_if (PW.pt (pmw_or (pmt_not (pmt_truth rfl (pm_b (b_isi rfl (K8 T)) rfl T.n_isinstance bt_isinstance (pma_cons (pm_var (pv 1)) (pma_cons (pm_c (pe_glob (v := .ref A.Trip) rfl T.m_Trip rfl) (fun _ => rep_cls (c := 6))) pma_nil))))) (pmw_or (pmt_cm (c_ne rfl hr) (pm_con rfl (con_cons T.cl_Trip T.cn_Trip_WORD (con_cons T.cl_Run T.cn_Run_WORD (con_cons T.cl_Stay T.cn_Stay_WORD con_nil))) (pm_var (pv 0)) rfl) (pm_con rfl (con_cons T.cl_Trip T.cn_Trip_WORD (con_cons T.cl_Run T.cn_Run_WORD (con_cons T.cl_Stay T.cn_Stay_WORD con_nil))) (pm_var (pv 1)) rfl) (nomark _)) (pmw_or1 (pmt_cm (c_ne rfl hr) (pm_fld rfl (attr_cons T.cl_Trip T.na_Trip_name (attr_cons T.cl_Run T.na_Run_name (attr_cons T.cl_Stay T.na_Stay_name attr_nil))) (pm_var (pv 0)) rfl) (pm_fld rfl (attr_cons T.cl_Trip T.na_Trip_name (attr_cons T.cl_Run T.na_Run_name (attr_cons T.cl_Stay T.na_Stay_name attr_nil))) (pm_var (pv 1)) rfl) (nomark _)))))) (pmss_one (pms_ret pm_bl)) pmss_nil) (pmss_one (pms_ret (pm_cmp (c_eq rfl hr) (pm_tup (pma_cons (pm_fld rfl (attr_cons T.cl_Trip T.na_Trip_start (attr_cons T.cl_Run T.na_Run_start (attr_cons T.cl_Stay T.na_Stay_start attr_nil))) (pm_var (pv 0)) rfl) (pma_cons (pm_fld rfl (attr_cons T.cl_Trip T.na_Trip_leaves (attr_cons T.cl_Run T.na_Run_leaves (attr_cons T.cl_Stay T.na_Stay_leaves attr_nil))) (pm_var (pv 0)) rfl) (pma_cons (pm_fld rfl (attr_cons T.cl_Trip T.na_Trip_takes (attr_cons T.cl_Run T.na_Run_takes (attr_cons T.cl_Stay T.na_Stay_takes attr_nil))) (pm_var (pv 0)) rfl) (pma_cons (pm_fld rfl (attr_cons T.cl_Trip T.na_Trip_goal (attr_cons T.cl_Run T.na_Run_goal (attr_cons T.cl_Stay T.na_Stay_goal attr_nil))) (pm_var (pv 0)) rfl) pma_nil))))) (pm_tup (pma_cons (pm_fld rfl (attr_cons T.cl_Trip T.na_Trip_start (attr_cons T.cl_Run T.na_Run_start (attr_cons T.cl_Stay T.na_Stay_start attr_nil))) (pm_var (pv 1)) rfl) (pma_cons (pm_fld rfl (attr_cons T.cl_Trip T.na_Trip_leaves (attr_cons T.cl_Run T.na_Run_leaves (attr_cons T.cl_Stay T.na_Stay_leaves attr_nil))) (pm_var (pv 1)) rfl) (pma_cons (pm_fld rfl (attr_cons T.cl_Trip T.na_Trip_takes (attr_cons T.cl_Run T.na_Run_takes (attr_cons T.cl_Stay T.na_Stay_takes attr_nil))) (pm_var (pv 1)) rfl) (pma_cons (pm_fld rfl (attr_cons T.cl_Trip T.na_Trip_goal (attr_cons T.cl_Run T.na_Run_goal (attr_cons T.cl_Stay T.na_Stay_goal attr_nil))) (pm_var (pv 1)) rfl) pma_nil))))) (nomark _)))))
theorem ok_Trip_str (T : Txt P K mg A D0) : FnOk P wo K mg base (L2.CX P wo) 1 A.Trip_str D0.Trip_str ["self"] (spM (W8 K A) 1 F_Trip_str) := by
  refine fn_ok (wd := W8 K A) T.f_Trip_str sc_Trip_str (by decide) (fun cdv Ar outer s H E hr => ?_)
  exact (pmss_one (pms_ret (pm_joined (.cons (pm_fmt (pm_con rfl (con_cons T.cl_Trip T.cn_Trip_WORD (con_cons T.cl_Run T.cn_Run_WORD (con_cons T.cl_Stay T.cn_Stay_WORD con_nil))) (pm_var (pv 0)) rfl)) (.cons pm_str (.cons (pm_fmt (pm_fld rfl (attr_cons T.cl_Trip T.na_Trip_name (attr_cons T.cl_Run T.na_Run_name (attr_cons T.cl_Stay T.na_Stay_name attr_nil))) (pm_var (pv 0)) rfl)) (.cons pm_str (.cons (pm_fmt (pm_fld rfl (attr_cons T.cl_Trip T.na_Trip_start (attr_cons T.cl_Run T.na_Run_start (attr_cons T.cl_Stay T.na_Stay_start attr_nil))) (pm_var (pv 0)) rfl)) (.cons pm_str (.cons (pm_fmt (pm_fld rfl (attr_cons T.cl_Trip T.na_Trip_leaves (attr_cons T.cl_Run T.na_Run_leaves (attr_cons T.cl_Stay T.na_Stay_leaves attr_nil))) (pm_var (pv 0)) rfl)) (.cons pm_str (.cons (pm_fmt (pm_fld rfl (attr_cons T.cl_Trip T.na_Trip_takes (attr_cons T.cl_Run T.na_Run_takes (attr_cons T.cl_Stay T.na_Stay_takes attr_nil))) (pm_var (pv 0)) rfl)) .nil))))))))))))
theorem ok_Run_init (T : Txt P K mg A D0) : FnOk P wo K mg base (L2.CX P wo) 5 A.Run_init D0.Run_init ["self", "name", "start", "leaves", "takes", "goal"] (spM (W8 K A) 6 F_Run_init) := by
  refine fn_sup (wd := W8 K A) (c := 8) T.f_Run_init sc_Run_init rfl rfl rfl rfl T.ms T.op (by decide) (ok_Trip_init T) ar_Trip_init (Nat.le_refl _) T.b_Trip_init T.ff_Trip_init T.fi_Trip_init T.so_Run (fun cda cc Ar outer s H E hr => ?_)
  exact (pma_cons (pm_var (pv 1)) (pma_cons (pm_var (pv 2)) (pma_cons (pm_var (pv 3)) (pma_cons (pm_var (pv 4)) (pma_cons (pm_var (pv 5)) pma_nil)))))
theorem ok_Run_str (T : Txt P K mg A D0) : FnOk P wo K mg base (L2.CX P wo) 1 A.Run_str D0.Run_str ["self"] (spM (W8 K A) 1 F_Run_str) := by
  refine fn_ok (wd := W8 K A) T.f_Run_str sc_Run_str (by decide) (fun cdv Ar outer s H E hr => ?_)
  exact (pmss_one (pms_ret (pm_joined (.cons (pm_fmt (pm_con rfl (con_cons T.cl_Run T.cn_Run_WORD con_nil) (pm_var (pv 0)) rfl)) (.cons pm_str (.cons (pm_fmt (pm_fld rfl (attr_cons T.cl_Run T.na_Run_name attr_nil) (pm_var (pv 0)) rfl)) (.cons pm_str (.cons (pm_fmt (pm_fld rfl (attr_cons T.cl_Run T.na_Run_start attr_nil) (pm_var (pv 0)) rfl)) (.cons pm_str (.cons (pm_fmt (pm_fld rfl (attr_cons T.cl_Run T.na_Run_leaves attr_nil) (pm_var (pv 0)) rfl)) (.cons pm_str (.cons (pm_fmt (pm_fld rfl (attr_cons T.cl_Run T.na_Run_takes attr_nil) (pm_var (pv 0)) rfl)) (.cons pm_str (.cons (pm_fmt (pm_fld rfl (attr_cons T.cl_Run T.na_Run_goal attr_nil) (pm_var (pv 0)) rfl)) .nil))))))))))))))
theorem ok_Stay_init (T : Txt P K mg A D0) : FnOk P wo K mg base (L2.CX P wo) 5 A.Stay_init D0.Stay_init ["self", "name", "place", "leaves", "takes"] (spM (W8 K A) 5 F_Stay_init) := by
  refine fn_sup (wd := W8 K A) (c := 9) T.f_Stay_init sc_Stay_init rfl rfl rfl rfl T.ms T.op (by decide) (ok_Trip_init T) ar_Trip_init (Nat.le_refl _) T.b_Trip_init T.ff_Trip_init T.fi_Trip_init T.so_Stay (fun cda cc Ar outer s H E hr => ?_)
  exact (pma_cons (pm_var (pv 1)) (pma_cons (pm_var (pv 2)) (pma_cons (pm_var (pv 3)) (pma_cons (pm_var (pv 4)) (pma_cons (pm_var (pv 2)) pma_nil)))))
theorem ok_pen (T : Txt P K mg A D0) : FnOk P wo K mg base (L2.CX P wo) 1 A.pen D0.pen ["_law_script"] (spM (W8 K A) 1 F_pen) := by
  refine fn_ok (wd := W8 K A) T.f_pen sc_pen (by decide) (fun cdv Ar outer s H E hr => ?_)
  exact (pmss_one (pms_ret (pm_lstM (pma_cons (pm_ty (b_list rfl) rfl T.n_list bt_list (pma_cons (pm_sl rfl (pm_var (pv 0)) pmo_none (pmo_some pm_int)) pma_nil)) (pma_cons pm_int (pma_cons pm_int pma_nil))))))
theorem ok_draw (T : Txt P K mg A D0) : FnOk P wo K mg base (L2.CX P wo) 1 A.draw D0.draw ["_law_pen_here", "_law_many"] (spM (W8 K A) 2 F_draw) := by
  refine fn_ok (wd := W8 K A) T.f_draw sc_draw (by decide) (fun cdv Ar outer s H E hr => ?_)
  exact (pmss_cons (pms_if (pmt_cm c_gt (pm_ix rfl (pm_var (pv 0)) pm_int (fun _ _ => rfl)) pm_int (nomark _)) (pmss_cons (pms_set (i := 5) sc_draw.nd rfl (Or.inl rfl) (pm_mod (pm_ty b_int rfl T.n_int bt_int (pma_cons (pm_ix rfl (pm_var (pv 0)) pm_int (fun _ _ => rfl)) pma_nil)) (pm_var (pv 1)))) (pmss_cons (pms_setI (pm_var (pv 0)) pm_int (pm_fdiv (pm_ty b_int rfl T.n_int bt_int (pma_cons (pm_ix rfl (pm_var (pv 0)) pm_int (fun _ _ => rfl)) pma_nil)) (pm_var (pv 1))) (ps_asg (pm_fdiv (pm_ty b_int rfl T.n_int bt_int (pma_cons (pm_ix rfl (pm_var (pv 0)) pm_int (fun _ _ => rfl)) pma_nil)) (pm_var (pv 1))) (pg_sub (pm_var (pv 0)) pm_int set_list))) (pmss_one (pms_ret (pm_var (pv 5)))))) pmss_nil) (pmss_cons (pms_set (i := 2) sc_draw.nd rfl (Or.inl rfl) (pm_ix rfl (pm_var (pv 0)) pm_int (fun _ _ => rfl))) (pmss_cons (pms_setI (pm_var (pv 0)) pm_int (pm_add rfl (pm_var (pv 2)) pm_int) (ps_asg (pm_add rfl (pm_var (pv 2)) pm_int) (pg_sub (pm_var (pv 0)) pm_int set_list))) (pmss_cons (pms_set (i := 3) sc_draw.nd rfl (Or.inl rfl) (pm_add rfl (pm_mul pm_int (pm_var (pv 2))) pm_int)) (pmss_cons (pms_if (pmt_cm (c_ne rfl hr) (pm_ix rfl (pm_var (pv 0)) pm_int (fun _ _ => rfl)) (pm_lst pma_nil) (nomark _)) (pmss_one (pms_set (i := 3) sc_draw.nd rfl (Or.inl rfl) (pm_ix rfl (pm_ix rfl (pm_var (pv 0)) pm_int (fun _ _ => rfl)) (pm_mod (pm_ty b_int rfl T.n_int bt_int (pma_cons (pm_var (pv 2)) pma_nil)) (pm_b (b_len rfl) rfl T.n_len bt_len (pma_cons (pm_ix rfl (pm_var (pv 0)) pm_int (fun _ _ => rfl)) pma_nil))) (fun _ _ => rfl)))) pmss_nil) (pmss_cons (pms_if (PW.pt (pmw_and (pmt_cm c_lt (pm_var (pv 2)) (pm_b (b_len rfl) rfl T.n_len bt_len (pma_cons (pm_ix rfl (pm_var (pv 0)) pm_int (fun _ _ => rfl)) pma_nil)) (nomark _)) (pmw_and1 (pmt_cm c_ge (pm_b b_abs rfl T.n_abs bt_abs (pma_cons (pm_var (pv 3)) pma_nil)) (pm_pow pm_int pm_int) (nomark _))))) (pmss_cons (pms_set (i := 6) sc_draw.nd rfl (Or.inl rfl) (pm_add rfl (pm_mul pm_int (pm_sub (pm_b b_abs rfl T.n_abs bt_abs (pma_cons (pm_var (pv 3)) pma_nil)) (pm_pow pm_int pm_int))) (pm_ty b_int rfl T.n_int bt_int (pma_cons (pm_cmp c_lt (pm_var (pv 3)) pm_int (nomark _)) pma_nil)))) (pmss_cons (pms_setI (pm_var (pv 0)) pm_int (pm_fdiv (pm_ty b_int rfl T.n_int bt_int (pma_cons (pm_var (pv 6)) pma_nil)) (pm_var (pv 1))) (ps_asg (pm_fdiv (pm_ty b_int rfl T.n_int bt_int (pma_cons (pm_var (pv 6)) pma_nil)) (pm_var (pv 1))) (pg_sub (pm_var (pv 0)) pm_int set_list))) (pmss_one (pms_ret (pm_mod (pm_ty b_int rfl T.n_int bt_int (pma_cons (pm_var (pv 6)) pma_nil)) (pm_var (pv 1))))))) pmss_nil) (pmss_cons (pms_set (i := 4) sc_draw.nd rfl (Or.inl rfl) (pm_mod (pm_ty b_int rfl T.n_int bt_int (pma_cons (pm_pow (pm_add rfl (pm_add rfl (pm_mod (pm_ty b_int rfl T.n_int bt_int (pma_cons (pm_var (pv 3)) pma_nil)) pm_int) (pm_mul pm_int (pm_var (pv 2)))) pm_int) pm_int) pma_nil)) pm_int)) (pmss_cons (pms_set (i := 4) sc_draw.nd rfl (Or.inl rfl) (pm_mod (pm_ty b_int rfl T.n_int bt_int (pma_cons (pm_pow (pm_add rfl (pm_add rfl (pm_mul (pm_var (pv 4)) (pm_add rfl (pm_mul pm_int (pm_var (pv 2))) pm_int)) (pm_mul (pm_mul pm_int (pm_var (pv 2))) (pm_var (pv 2)))) pm_int) pm_int) pma_nil)) pm_int)) (pmss_one (pms_ret (pm_mod (pm_ty b_int rfl T.n_int bt_int (pma_cons (pm_fdiv (pm_var (pv 4)) pm_int) pma_nil)) (pm_var (pv 1)))))))))))))
theorem ok_pick (T : Txt P K mg A D0) : FnOk P wo K mg base (L2.CX P wo) 2 A.pick D0.pick ["_law_pen_here", "_law_some"] (spM (W8 K A) 2 F_pick) := by
  refine fn_ok (wd := W8 K A) T.f_pick sc_pick (by decide) (fun cdv Ar outer s H E hr => ?_)
  exact (pmss_one (pms_ret (pm_ix rfl (pm_var (pv 1)) (pm_call (ok_draw T) ar_draw (hr.mono (by decide)) rfl T.m_draw T.f_draw.kp T.b_draw (passes_call (takes_of rfl rfl rfl rfl) (fun _ _ _ _ h => h)) (pma_cons (pm_var (pv 0)) (pma_cons (pm_b (b_len rfl) rfl T.n_len bt_len (pma_cons (pm_var (pv 1)) pma_nil)) pma_nil))) (fun _ _ => rfl))))
theorem ok_title (T : Txt P K mg A D0) : FnOk P wo K mg base (L2.CX P wo) 3 A.title D0.title ["_law_pen_here"] (spM (W8 K A) 1 F_title) := by
  refine fn_ok (wd := W8 K A) T.f_title sc_title (by decide) (fun cdv Ar outer s H E hr => ?_)
  exact (pmss_cons (pms_set (i := 1) sc_title.nd rfl (Or.inl rfl) (pm_lst (pma_cons pm_str (pma_cons pm_str (pma_cons pm_str (pma_cons pm_str (pma_cons pm_str (pma_cons pm_str (pma_cons pm_str (pma_cons pm_str (pma_cons pm_str (pma_cons pm_str (pma_cons pm_str (pma_cons pm_str (pma_cons pm_str pma_nil))))))))))))))) (pmss_one (pms_ret (pm_call (ok_pick T) ar_pick (hr.mono (by decide)) rfl T.m_pick T.f_pick.kp T.b_pick (passes_call (takes_of rfl rfl rfl rfl) (fun _ _ _ _ h => h)) (pma_cons (pm_var (pv 0)) (pma_cons (pm_var (pv 1)) pma_nil))))))
theorem ok_number (T : Txt P K mg A D0) : FnOk P wo K mg base (L2.CX P wo) 3 A.number D0.number ["_law_pen_here", "_law_least"] (spM (W8 K A) 2 F_number) := by
  refine fn_ok (wd := W8 K A) T.f_number sc_number (by decide) (fun cdv Ar outer s H E hr => ?_)
  exact (pmss_one (pms_ret (pm_b (b_max2 rfl) rfl T.n_max bt_max (pma_cons (pm_ty b_int rfl T.n_int bt_int (pma_cons (pm_var (pv 1)) pma_nil)) (pma_cons (pm_call (ok_pick T) ar_pick (hr.mono (by decide)) rfl T.m_pick T.f_pick.kp T.b_pick (passes_call (takes_of rfl rfl rfl rfl) (fun _ _ _ _ h => h)) (pma_cons (pm_var (pv 0)) (pma_cons (pm_lst (pma_cons pm_int (pma_cons pm_int (pma_cons pm_int (pma_cons (pm_call (ok_draw T) ar_draw (hr.mono (by decide)) rfl T.m_draw T.f_draw.kp T.b_draw (passes_call (takes_of rfl rfl rfl rfl) (fun _ _ _ _ h => h)) (pma_cons (pm_var (pv 0)) (pma_cons pm_int pma_nil))) (pma_cons pm_int (pma_cons (pm_pow pm_int pm_int) (pma_cons (pm_sub (pm_pow pm_int pm_int) (pm_call (ok_draw T) ar_draw (hr.mono (by decide)) rfl T.m_draw T.f_draw.kp T.b_draw (passes_call (takes_of rfl rfl rfl rfl) (fun _ _ _ _ h => h)) (pma_cons (pm_var (pv 0)) (pma_cons pm_int pma_nil)))) pma_nil)))))))) pma_nil))) pma_nil)))))
theorem ok_kinds (T : Txt P K mg A D0) : FnOk P wo K mg base (L2.CX P wo) 1 A.kinds D0.kinds ["_law_made"] (spM (W8 K A) 1 F_kinds) := by
  refine fn_ok (wd := W8 K A) T.f_kinds sc_kinds (by decide) (fun cdv Ar outer s H E hr => ?_)
  exact (pmss_one (pms_ret (pm_lst (pma_cons (pm_b (b_isi rfl (K8 T)) rfl T.n_isinstance bt_isinstance (pma_cons (pm_var (pv 0)) (pma_cons (pm_c (pe_glob (v := .ref A.Trip) rfl T.m_Trip rfl) (fun _ => rep_cls (c := 6))) pma_nil))) (pma_cons (pm_b (b_isi rfl (K8 T)) rfl T.n_isinstance bt_isinstance (pma_cons (pm_var (pv 0)) (pma_cons (pm_c (pe_glob (v := .ref A.Paused) rfl T.m_Paused rfl) (fun _ => rep_cls (c := 7))) pma_nil))) (pma_cons (pm_b (b_isi rfl (K8 T)) rfl T.n_isinstance bt_isinstance (pma_cons (pm_var (pv 0)) (pma_cons (pm_c (pe_glob (v := .ref A.Run) rfl T.m_Run rfl) (fun _ => rep_cls (c := 8))) pma_nil))) (pma_cons (pm_b (b_isi rfl (K8 T)) rfl T.n_isinstance bt_isinstance (pma_cons (pm_var (pv 0)) (pma_cons (pm_c (pe_glob (v := .ref A.Stay) rfl T.m_Stay rfl) (fun _ => rep_cls (c := 9))) pma_nil))) pma_nil)))))))
theorem ok_parts (T : Txt P K mg A D0) : FnG P wo K mg base (L2.CX P wo) 1 A.parts D0.parts ["_law_made"] (spM (W8 K A) 1 F_parts) := by
  refine fn_okG (wd := W8 K A) T.f_parts sc_parts (by decide) (fun cdv Ar outer s H E hg hr => ?_)
  exact (pmss_one (pms_ret (pm_b (b_repr rfl hg hr) rfl T.n_repr bt_repr (pma_cons (pm_lst (pma_cons (pm_fld rfl (attr_cons T.cl_Trip T.na_Trip_name (attr_cons T.cl_Run T.na_Run_name (attr_cons T.cl_Stay T.na_Stay_name attr_nil))) (pm_var (pv 0)) rfl) (pma_cons (pm_fld rfl (attr_cons T.cl_Trip T.na_Trip_start (attr_cons T.cl_Run T.na_Run_start (attr_cons T.cl_Stay T.na_Stay_start attr_nil))) (pm_var (pv 0)) rfl) (pma_cons (pm_fld rfl (attr_cons T.cl_Trip T.na_Trip_leaves (attr_cons T.cl_Run T.na_Run_leaves (attr_cons T.cl_Stay T.na_Stay_leaves attr_nil))) (pm_var (pv 0)) rfl) (pma_cons (pm_fld rfl (attr_cons T.cl_Trip T.na_Trip_takes (attr_cons T.cl_Run T.na_Run_takes (attr_cons T.cl_Stay T.na_Stay_takes attr_nil))) (pm_var (pv 0)) rfl) (pma_cons (pm_fld rfl (attr_cons T.cl_Trip T.na_Trip_goal (attr_cons T.cl_Run T.na_Run_goal (attr_cons T.cl_Stay T.na_Stay_goal attr_nil))) (pm_var (pv 0)) rfl) pma_nil)))))) pma_nil))))
theorem ok_run_right (T : Txt P K mg A D0) : FnG P wo K mg base (L2.CX P wo) 7 A.run_right D0.run_right ["_law_pen_here", "_law_parts_here"] (spM (W8 K A) 2 F_run_right) := by
  refine FnG.gc (fn_okG (wd := W8 K A) T.f_run_right sc_run_right (by decide) (fun cdv Ar outer s H E hg hr => ?_))
  exact (pmss_cons (pms_asg (pm_var (pv 1)) (pgm_tp rfl rfl (pgms_cons (pgm_nm (i := 6) sc_run_right.nd rfl (Or.inl rfl)) (pgms_cons (pgm_nm (i := 7) sc_run_right.nd rfl (Or.inl rfl)) (pgms_cons (pgm_nm (i := 8) sc_run_right.nd rfl (Or.inl rfl)) (pgms_cons (pgm_nm (i := 9) sc_run_right.nd rfl (Or.inl rfl)) (pgms_cons (pgm_nm (i := 10) sc_run_right.nd rfl (Or.inl rfl)) pgms_nil))))))) (pmss_cons (pms_set (i := 2) sc_run_right.nd rfl (Or.inr rfl) (pm_make (c := 8) T.mk_Run (ok_Run_init T) ar_Run_init (hr.mono (by decide)) rfl T.m_Run T.b_Run_init (passes_call (takes_of rfl rfl rfl rfl) (fun _ _ _ _ h => h)) (pma_cons (pm_var (pv 6)) (pma_cons (pm_var (pv 7)) (pma_cons (pm_var (pv 8)) (pma_cons (pm_var (pv 9)) (pma_cons (pm_var (pv 10)) pma_nil))))))) (pmss_cons (pms_if (PW.pt (pmw_or (pmt_cm (c_ne rfl hr) (pm_callG (ok_parts T) ar_parts hg (hr.mono (by decide)) rfl T.m_parts T.f_parts.kp T.b_parts (passes_call (takes_of rfl rfl rfl rfl) (fun _ _ _ _ h => h)) (pma_cons (pm_var (pv 2)) pma_nil)) (pm_b (b_repr rfl hg hr) rfl T.n_repr bt_repr (pma_cons (pm_var (pv 1)) pma_nil)) (nomark _)) (pmw_or1 (pmt_cm (c_ne rfl hr) (pm_call (ok_kinds T) ar_kinds (hr.mono (by decide)) rfl T.m_kinds T.f_kinds.kp T.b_kinds (passes_call (takes_of rfl rfl rfl rfl) (fun _ _ _ _ h => h)) (pma_cons (pm_var (pv 2)) pma_nil)) (pm_lst (pma_cons pm_bl (pma_cons pm_bl (pma_cons pm_bl (pma_cons pm_bl pma_nil))))) (nomark _))))) (pmss_one (pms_ret pm_bl)) pmss_nil) (pmss_cons (pms_if (pmt_cm (c_ne rfl hr) (pm_ty (b_strO T.me_Run_str (ok_Run_str T) ar_Run_str (hr.mono (by decide)) T.b_Run_str (passes_call (takes_of rfl rfl rfl rfl) (fun _ _ _ _ h => h))) rfl T.n_str bt_str (pma_cons (pm_var (pv 2)) pma_nil)) (pm_join rfl pm_str (pm_lst (pma_cons pm_str (pma_cons (pm_var (pv 6)) (pma_cons (pm_var (pv 7)) (pma_cons (pm_ty b_str rfl T.n_str bt_str (pma_cons (pm_var (pv 8)) pma_nil)) (pma_cons (pm_ty b_str rfl T.n_str bt_str (pma_cons (pm_var (pv 9)) pma_nil)) (pma_cons (pm_var (pv 10)) pma_nil)))))))) (nomark _)) (pmss_one (pms_ret pm_bl)) pmss_nil) (pmss_cons (pms_set (i := 3) sc_run_right.nd rfl (Or.inl rfl) (pm_makeK0 (c := 8) T.mk_Run (ok_Run_init T) ar_Run_init (hr.mono (by decide)) rfl T.m_Run (FunS.kbn T.f_Run_init (ps := ["self", "name", "start", "leaves", "takes", "goal"]) (ks := ["goal", "takes", "leaves", "start", "name"]) 1 [4, 3, 2, 1, 0] fun _ _ _ _ _ _ _ us ws h1 h2 => match us, ws, h1, h2 with | [_], [_, _, _, _, _], _, _ => rfl) (passes_call (takes_of rfl rfl rfl rfl) (fun _ _ _ _ h => h)) (pmk_cons (pm_var (pv 10)) (pmk_cons (pm_var (pv 9)) (pmk_cons (pm_var (pv 8)) (pmk_cons (pm_var (pv 7)) (pmk_cons (pm_var (pv 6)) pmk_nil))))))) (pmss_cons (pms_if (PW.pt (pmw_or (pmt_cm (c_ownNe rfl T.ne_Run (ok_Trip_eq T) ar_Trip_eq (hr.mono (by decide)) T.b_Trip_eq (passes_call (takes_of rfl rfl rfl rfl) (fun _ _ _ _ h => h)) (K8 T).own (nf_Run T)) (pm_var (pv 2)) (pm_var (pv 3)) (nomark _)) (pmw_or1 (pmt_not (pmt_cm (c_own rfl rich_eq T.co_Run_Eq (ok_Trip_eq T) ar_Trip_eq (hr.mono (by decide)) T.b_Trip_eq (passes_call (takes_of rfl rfl rfl rfl) (fun _ _ _ _ h => h)) (K8 T).own (nf_Run T)) (pm_var (pv 2)) (pm_var (pv 3)) (nomark _)))))) (pmss_one (pms_ret pm_bl)) pmss_nil) (pmss_cons (pms_for (passes_of rfl) rfl (pmi_range1 rfl T.n_range (pma_cons pm_int pma_nil)) (pgm_nm (i := 4) sc_run_right.nd rfl (Or.inl rfl)) (pmss_cons (pms_set (i := 11) sc_run_right.nd rfl (Or.inl rfl) (pm_ty (b_listM rfl) rfl T.n_list bt_list (pma_cons (pm_var (pv 1)) pma_nil))) (pmss_cons (pms_setI (pm_var (pv 11)) (pm_var (pv 4)) (pm_ifExp (pmt_cm (c_in rfl) (pm_var (pv 4)) (pm_tup (pma_cons pm_int (pma_cons pm_int (pma_cons pm_int pma_nil)))) (by rfl)) (pm_call (ok_title T) ar_title (hr.mono (by decide)) rfl T.m_title T.f_title.kp T.b_title (passes_call (takes_of rfl rfl rfl rfl) (fun _ _ _ _ h => h)) (pma_cons (pm_var (pv 0)) pma_nil)) (pm_call (ok_number T) ar_number (hr.mono (by decide)) rfl T.m_number T.f_number.kp T.b_number (passes_call (takes_of rfl rfl rfl rfl) (fun _ _ _ _ h => h)) (pma_cons (pm_var (pv 0)) (pma_cons pm_int pma_nil)))) (ps_asg (pm_ifExp (pmt_cm (c_in rfl) (pm_var (pv 4)) (pm_tup (pma_cons pm_int (pma_cons pm_int (pma_cons pm_int pma_nil)))) (by rfl)) (pm_call (ok_title T) ar_title (hr.mono (by decide)) rfl T.m_title T.f_title.kp T.b_title (passes_call (takes_of rfl rfl rfl rfl) (fun _ _ _ _ h => h)) (pma_cons (pm_var (pv 0)) pma_nil)) (pm_call (ok_number T) ar_number (hr.mono (by decide)) rfl T.m_number T.f_number.kp T.b_number (passes_call (takes_of rfl rfl rfl rfl) (fun _ _ _ _ h => h)) (pma_cons (pm_var (pv 0)) (pma_cons pm_int pma_nil)))) (pg_sub (pm_var (pv 11)) (pm_var (pv 4)) set_list))) (pmss_cons (pms_set (i := 12) sc_run_right.nd rfl (Or.inl rfl) (pm_make (c := 8) T.mk_Run (ok_Run_init T) ar_Run_init (hr.mono (by decide)) rfl T.m_Run T.b_Run_init (passes_call (takes_of rfl rfl rfl rfl) (fun _ _ _ _ h => h)) (pma_cons (pm_ix rfl (pm_var (pv 11)) pm_int (fun _ _ => rfl)) (pma_cons (pm_ix rfl (pm_var (pv 11)) pm_int (fun _ _ => rfl)) (pma_cons (pm_ix rfl (pm_var (pv 11)) pm_int (fun _ _ => rfl)) (pma_cons (pm_ix rfl (pm_var (pv 11)) pm_int (fun _ _ => rfl)) (pma_cons (pm_ix rfl (pm_var (pv 11)) pm_int (fun _ _ => rfl)) pma_nil))))))) (pmss_one (pms_if (PW.pt (pmw_or (pmt_cm (c_ne rfl hr) (pm_cmp (c_own rfl rich_eq T.co_Run_Eq (ok_Trip_eq T) ar_Trip_eq (hr.mono (by decide)) T.b_Trip_eq (passes_call (takes_of rfl rfl rfl rfl) (fun _ _ _ _ h => h)) (K8 T).own (nf_Run T)) (pm_var (pv 2)) (pm_var (pv 12)) (nomark _)) (pm_cmp (c_eq rfl hr) (pm_var (pv 11)) (pm_var (pv 1)) (nomark _)) (nomark _)) (pmw_or1 (pmt_cm (c_eq rfl hr) (pm_cmp (c_ownNe rfl T.ne_Run (ok_Trip_eq T) ar_Trip_eq (hr.mono (by decide)) T.b_Trip_eq (passes_call (takes_of rfl rfl rfl rfl) (fun _ _ _ _ h => h)) (K8 T).own (nf_Run T)) (pm_var (pv 2)) (pm_var (pv 12)) (nomark _)) (pm_cmp (c_eq rfl hr) (pm_var (pv 11)) (pm_var (pv 1)) (nomark _)) (nomark _))))) (pmss_one (pms_ret pm_bl)) pmss_nil)))))) (pmss_cons (pms_set (i := 5) sc_run_right.nd rfl (Or.inl rfl) (pm_lst (pma_cons pm_non (pma_cons pm_int (pma_cons (pm_ty (b_strO T.me_Run_str (ok_Run_str T) ar_Run_str (hr.mono (by decide)) T.b_Run_str (passes_call (takes_of rfl rfl rfl rfl) (fun _ _ _ _ h => h))) rfl T.n_str bt_str (pma_cons (pm_var (pv 2)) pma_nil)) (pma_cons (pm_ty (b_tuple rfl) rfl T.n_tuple bt_tuple (pma_cons (pm_var (pv 1)) pma_nil)) (pma_cons (pm_var (pv 1)) (pma_cons (pm_make (c := 9) T.mk_Stay (ok_Stay_init T) ar_Stay_init (hr.mono (by decide)) rfl T.m_Stay T.b_Stay_init (passes_call (takes_of rfl rfl rfl rfl) (fun _ _ _ _ h => h)) (pma_cons (pm_var (pv 6)) (pma_cons (pm_var (pv 7)) (pma_cons (pm_var (pv 8)) (pma_cons (pm_var (pv 9)) pma_nil))))) pma_nil)))))))) (pmss_one (pms_ret (pm_cmp (c_eq rfl hr) (pm_lc (own := [("_law_odd", 13)]) (p := (.nm 13)) rfl sc_run_right.nd (pmi_seq rfl (pm_var (pv 5))) (blkOk_by (own := [("_law_odd", 13)]) (N := ["_law_pen_here", "_law_parts_here", "_law_made", "_law_twin", "_law_at", "_law_others", "_law_title_here", "_law_home", "_law_when", "_law_span", "_law_target", "_law_bent", "_law_other", "_law_odd"]) (sc := defScope s_run_right) (by decide +kernel)) (by rfl) (fun _ _ _ _ _ => (pgm_nm (i := 13) sc_run_right.nd rfl (Or.inl rfl))) (fun _ _ _ _ _ => (pmts_one (pmt_cm (c_own rfl rich_eq T.co_Run_Eq (ok_Trip_eq T) ar_Trip_eq (hr.mono (by decide)) T.b_Trip_eq pass0E (K8 T).own (nf_Run T)) (pm_var (pv 2)) (pm_var (pv 13)) (nomark _)))) (fun _ _ _ _ _ => (pm_var (pv 13)))) (pm_lst pma_nil) (nomark _))))))))))))
theorem ok_stay_right (T : Txt P K mg A D0) : FnG P wo K mg base (L2.CX P wo) 7 A.stay_right D0.stay_right ["_law_pen_here", "_law_parts_here"] (spM (W8 K A) 2 F_stay_right) := by
  refine FnG.gc (fn_okG (wd := W8 K A) T.f_stay_right sc_stay_right (by decide) (fun cdv Ar outer s H E hg hr => ?_))
  exact (pmss_cons (pms_asg (pm_sl rfl (pm_var (pv 1)) pmo_none (pmo_some pm_int)) (pgm_tp rfl rfl (pgms_cons (pgm_nm (i := 4) sc_stay_right.nd rfl (Or.inl rfl)) (pgms_cons (pgm_nm (i := 5) sc_stay_right.nd rfl (Or.inl rfl)) (pgms_cons (pgm_nm (i := 6) sc_stay_right.nd rfl (Or.inl rfl)) (pgms_cons (pgm_nm (i := 7) sc_stay_right.nd rfl (Or.inl rfl)) pgms_nil)))))) (pmss_cons (pms_set (i := 2) sc_stay_right.nd rfl (Or.inr rfl) (pm_make (c := 9) T.mk_Stay (ok_Stay_init T) ar_Stay_init (hr.mono (by decide)) rfl T.m_Stay T.b_Stay_init (passes_call (takes_of rfl rfl rfl rfl) (fun _ _ _ _ h => h)) (pma_cons (pm_var (pv 4)) (pma_cons (pm_var (pv 5)) (pma_cons (pm_var (pv 6)) (pma_cons (pm_var (pv 7)) pma_nil)))))) (pmss_cons (pms_if (PW.pt (pmw_or (pmt_cm (c_ne rfl hr) (pm_callG (ok_parts T) ar_parts hg (hr.mono (by decide)) rfl T.m_parts T.f_parts.kp T.b_parts (passes_call (takes_of rfl rfl rfl rfl) (fun _ _ _ _ h => h)) (pma_cons (pm_var (pv 2)) pma_nil)) (pm_b (b_repr rfl hg hr) rfl T.n_repr bt_repr (pma_cons (pm_lst (pma_cons (pm_var (pv 4)) (pma_cons (pm_var (pv 5)) (pma_cons (pm_var (pv 6)) (pma_cons (pm_var (pv 7)) (pma_cons (pm_var (pv 5)) pma_nil)))))) pma_nil)) (nomark _)) (pmw_or1 (pmt_cm (c_ne rfl hr) (pm_call (ok_kinds T) ar_kinds (hr.mono (by decide)) rfl T.m_kinds T.f_kinds.kp T.b_kinds (passes_call (takes_of rfl rfl rfl rfl) (fun _ _ _ _ h => h)) (pma_cons (pm_var (pv 2)) pma_nil)) (pm_lst (pma_cons pm_bl (pma_cons pm_bl (pma_cons pm_bl (pma_cons pm_bl pma_nil))))) (nomark _))))) (pmss_one (pms_ret pm_bl)) pmss_nil) (pmss_cons (pms_if (pmt_cm (c_ne rfl hr) (pm_ty (b_strO T.me_Stay_str (ok_Trip_str T) ar_Trip_str (hr.mono (by decide)) T.b_Trip_str (passes_call (takes_of rfl rfl rfl rfl) (fun _ _ _ _ h => h))) rfl T.n_str bt_str (pma_cons (pm_var (pv 2)) pma_nil)) (pm_join rfl pm_str (pm_lst (pma_cons pm_str (pma_cons (pm_var (pv 4)) (pma_cons (pm_var (pv 5)) (pma_cons (pm_ty b_str rfl T.n_str bt_str (pma_cons (pm_var (pv 6)) pma_nil)) (pma_cons (pm_ty b_str rfl T.n_str bt_str (pma_cons (pm_var (pv 7)) pma_nil)) pma_nil))))))) (nomark _)) (pmss_one (pms_ret pm_bl)) pmss_nil) (pmss_cons (pms_if (pmt_cm (c_ownNe rfl T.ne_Stay (ok_Trip_eq T) ar_Trip_eq (hr.mono (by decide)) T.b_Trip_eq (passes_call (takes_of rfl rfl rfl rfl) (fun _ _ _ _ h => h)) (K8 T).own (nf_Stay T)) (pm_var (pv 2)) (pm_makeK0 (c := 9) T.mk_Stay (ok_Stay_init T) ar_Stay_init (hr.mono (by decide)) rfl T.m_Stay (FunS.kbn T.f_Stay_init (ps := ["self", "name", "place", "leaves", "takes"]) (ks := ["takes", "leaves", "place", "name"]) 1 [3, 2, 1, 0] fun _ _ _ _ _ _ _ us ws h1 h2 => match us, ws, h1, h2 with | [_], [_, _, _, _], _, _ => rfl) (passes_call (takes_of rfl rfl rfl rfl) (fun _ _ _ _ h => h)) (pmk_cons (pm_var (pv 7)) (pmk_cons (pm_var (pv 6)) (pmk_cons (pm_var (pv 5)) (pmk_cons (pm_var (pv 4)) pmk_nil))))) (nomark _)) (pmss_one (pms_ret pm_bl)) pmss_nil) (pmss_cons (pms_for (passes_of rfl) rfl (pmi_range1 rfl T.n_range (pma_cons pm_int pma_nil)) (pgm_nm (i := 3) sc_stay_right.nd rfl (Or.inl rfl)) (pmss_cons (pms_set (i := 8) sc_stay_right.nd rfl (Or.inl rfl) (pm_ty (b_listM rfl) rfl T.n_list bt_list (pma_cons (pm_sl rfl (pm_var (pv 1)) pmo_none (pmo_some pm_int)) pma_nil))) (pmss_cons (pms_setI (pm_var (pv 8)) (pm_var (pv 3)) (pm_ifExp (pmt_cm c_lt (pm_var (pv 3)) pm_int (nomark _)) (pm_call (ok_title T) ar_title (hr.mono (by decide)) rfl T.m_title T.f_title.kp T.b_title (passes_call (takes_of rfl rfl rfl rfl) (fun _ _ _ _ h => h)) (pma_cons (pm_var (pv 0)) pma_nil)) (pm_call (ok_number T) ar_number (hr.mono (by decide)) rfl T.m_number T.f_number.kp T.b_number (passes_call (takes_of rfl rfl rfl rfl) (fun _ _ _ _ h => h)) (pma_cons (pm_var (pv 0)) (pma_cons pm_int pma_nil)))) (ps_asg (pm_ifExp (pmt_cm c_lt (pm_var (pv 3)) pm_int (nomark _)) (pm_call (ok_title T) ar_title (hr.mono (by decide)) rfl T.m_title T.f_title.kp T.b_title (passes_call (takes_of rfl rfl rfl rfl) (fun _ _ _ _ h => h)) (pma_cons (pm_var (pv 0)) pma_nil)) (pm_call (ok_number T) ar_number (hr.mono (by decide)) rfl T.m_number T.f_number.kp T.b_number (passes_call (takes_of rfl rfl rfl rfl) (fun _ _ _ _ h => h)) (pma_cons (pm_var (pv 0)) (pma_cons pm_int pma_nil)))) (pg_sub (pm_var (pv 8)) (pm_var (pv 3)) set_list))) (pmss_cons (pms_set (i := 9) sc_stay_right.nd rfl (Or.inl rfl) (pm_make (c := 9) T.mk_Stay (ok_Stay_init T) ar_Stay_init (hr.mono (by decide)) rfl T.m_Stay T.b_Stay_init (passes_call (takes_of rfl rfl rfl rfl) (fun _ _ _ _ h => h)) (pma_cons (pm_ix rfl (pm_var (pv 8)) pm_int (fun _ _ => rfl)) (pma_cons (pm_ix rfl (pm_var (pv 8)) pm_int (fun _ _ => rfl)) (pma_cons (pm_ix rfl (pm_var (pv 8)) pm_int (fun _ _ => rfl)) (pma_cons (pm_ix rfl (pm_var (pv 8)) pm_int (fun _ _ => rfl)) pma_nil)))))) (pmss_one (pms_if (PW.pt (pmw_or (pmt_cm (c_ne rfl hr) (pm_cmp (c_own rfl rich_eq T.co_Stay_Eq (ok_Trip_eq T) ar_Trip_eq (hr.mono (by decide)) T.b_Trip_eq (passes_call (takes_of rfl rfl rfl rfl) (fun _ _ _ _ h => h)) (K8 T).own (nf_Stay T)) (pm_var (pv 2)) (pm_var (pv 9)) (nomark _)) (pm_cmp (c_eq rfl hr) (pm_var (pv 8)) (pm_sl rfl (pm_var (pv 1)) pmo_none (pmo_some pm_int)) (nomark _)) (nomark _)) (pmw_or1 (pmt_cm (c_eq rfl hr) (pm_cmp (c_ownNe rfl T.ne_Stay (ok_Trip_eq T) ar_Trip_eq (hr.mono (by decide)) T.b_Trip_eq (passes_call (takes_of rfl rfl rfl rfl) (fun _ _ _ _ h => h)) (K8 T).own (nf_Stay T)) (pm_var (pv 9)) (pm_var (pv 2)) (nomark _)) (pm_cmp (c_eq rfl hr) (pm_var (pv 8)) (pm_sl rfl (pm_var (pv 1)) pmo_none (pmo_some pm_int)) (nomark _)) (nomark _))))) (pmss_one (pms_ret pm_bl)) pmss_nil)))))) (pmss_one (pms_ret (pm_cmp (c_eq rfl hr) (pm_lc (own := [("_law_odd", 10)]) (p := (.nm 10)) rfl sc_stay_right.nd (pmi_seq rfl (pm_lst (pma_cons pm_non (pma_cons pm_bl (pma_cons (pm_ty (b_strO T.me_Stay_str (ok_Trip_str T) ar_Trip_str (hr.mono (by decide)) T.b_Trip_str (passes_call (takes_of rfl rfl rfl rfl) (fun _ _ _ _ h => h))) rfl T.n_str bt_str (pma_cons (pm_var (pv 2)) pma_nil)) (pma_cons (pm_var (pv 1)) (pma_cons (pm_make (c := 8) T.mk_Run (ok_Run_init T) ar_Run_init (hr.mono (by decide)) rfl T.m_Run T.b_Run_init (passes_call (takes_of rfl rfl rfl rfl) (fun _ _ _ _ h => h)) (pma_cons (pm_var (pv 4)) (pma_cons (pm_var (pv 5)) (pma_cons (pm_var (pv 6)) (pma_cons (pm_var (pv 7)) (pma_cons (pm_var (pv 5)) pma_nil)))))) pma_nil))))))) (blkOk_by (own := [("_law_odd", 10)]) (N := ["_law_pen_here", "_law_parts_here", "_law_made", "_law_at", "_law_title_here", "_law_home", "_law_when", "_law_span", "_law_bent", "_law_other", "_law_odd"]) (sc := defScope s_stay_right) (by decide +kernel)) (by rfl) (fun _ _ _ _ _ => (pgm_nm (i := 10) sc_stay_right.nd rfl (Or.inl rfl))) (fun _ _ _ _ _ => (pmts_one (pmt_cm (c_own rfl rich_eq T.co_Stay_Eq (ok_Trip_eq T) ar_Trip_eq (hr.mono (by decide)) T.b_Trip_eq pass0E (K8 T).own (nf_Stay T)) (pm_var (pv 2)) (pm_var (pv 10)) (nomark _)))) (fun _ _ _ _ _ => (pm_var (pv 10)))) (pm_lst pma_nil) (nomark _))))))))))
theorem ok_law (T : Txt P K mg A D0) : FnG P wo K mg base (L2.CX P wo) 8 A.law D0.law ["_law_script"] (spM (W8 K A) 1 F_law) := by
  refine fn_okG (wd := W8 K A) T.f_law sc_law (by decide) (fun cdv Ar outer s H E hg hr => ?_)
  exact (pmss_cons (pms_set (i := 1) sc_law.nd rfl (Or.inl rfl) (pm_call (ok_pen T) ar_pen (hr.mono (by decide)) rfl T.m_pen T.f_pen.kp T.b_pen (passes_call (takes_of rfl rfl rfl rfl) (fun _ _ _ _ h => h)) (pma_cons (pm_var (pv 0)) pma_nil))) (pmss_cons (pms_for (passes_of rfl) rfl (pmi_range1 rfl T.n_range (pma_cons pm_int pma_nil)) (pgm_nm (i := 2) sc_law.nd rfl (Or.inl rfl)) (pmss_cons (pms_set (i := 3) sc_law.nd rfl (Or.inl rfl) (pm_lst (pma_cons (pm_call (ok_title T) ar_title (hr.mono (by decide)) rfl T.m_title T.f_title.kp T.b_title (passes_call (takes_of rfl rfl rfl rfl) (fun _ _ _ _ h => h)) (pma_cons (pm_var (pv 1)) pma_nil)) (pma_cons (pm_call (ok_title T) ar_title (hr.mono (by decide)) rfl T.m_title T.f_title.kp T.b_title (passes_call (takes_of rfl rfl rfl rfl) (fun _ _ _ _ h => h)) (pma_cons (pm_var (pv 1)) pma_nil)) (pma_cons (pm_call (ok_number T) ar_number (hr.mono (by decide)) rfl T.m_number T.f_number.kp T.b_number (passes_call (takes_of rfl rfl rfl rfl) (fun _ _ _ _ h => h)) (pma_cons (pm_var (pv 1)) (pma_cons pm_int pma_nil))) (pma_cons (pm_call (ok_number T) ar_number (hr.mono (by decide)) rfl T.m_number T.f_number.kp T.b_number (passes_call (takes_of rfl rfl rfl rfl) (fun _ _ _ _ h => h)) (pma_cons (pm_var (pv 1)) (pma_cons pm_int pma_nil))) (pma_cons (pm_call (ok_title T) ar_title (hr.mono (by decide)) rfl T.m_title T.f_title.kp T.b_title (passes_call (takes_of rfl rfl rfl rfl) (fun _ _ _ _ h => h)) (pma_cons (pm_var (pv 1)) pma_nil)) pma_nil))))))) (pmss_one (pms_if (PW.pt (pmw_or (pmt_not (pmt_truth rfl (pm_callG (ok_run_right T) ar_run_right hg (hr.mono (by decide)) rfl T.m_run_right T.f_run_right.kp T.b_run_right (passes_call (takes_of rfl rfl rfl rfl) (fun _ _ _ _ h => h)) (pma_cons (pm_var (pv 1)) (pma_cons (pm_var (pv 3)) pma_nil))))) (pmw_or1 (pmt_not (pmt_truth rfl (pm_callG (ok_stay_right T) ar_stay_right hg (hr.mono (by decide)) rfl T.m_stay_right T.f_stay_right.kp T.b_stay_right (passes_call (takes_of rfl rfl rfl rfl) (fun _ _ _ _ h => h)) (pma_cons (pm_var (pv 1)) (pma_cons (pm_var (pv 3)) pma_nil)))))))) (pmss_one (pms_ret pm_bl)) pmss_nil)))) (pmss_one (pms_ret (pm_and (pm_cmp (c_eq rfl hr) (pm_ty (b_strO T.me_Run_str (ok_Run_str T) ar_Run_str (hr.mono (by decide)) T.b_Run_str (passes_call (takes_of rfl rfl rfl rfl) (fun _ _ _ _ h => h))) rfl T.n_str bt_str (pma_cons (pm_make (c := 8) T.mk_Run (ok_Run_init T) ar_Run_init (hr.mono (by decide)) rfl T.m_Run T.b_Run_init (passes_call (takes_of rfl rfl rfl rfl) (fun _ _ _ _ h => h)) (pma_cons pm_str (pma_cons pm_str (pma_cons pm_int (pma_cons pm_int (pma_cons pm_str pma_nil)))))) pma_nil)) pm_str (nomark _)) (pm_one (pm_cmp (c_eq rfl hr) (pm_ty (b_strO T.me_Stay_str (ok_Trip_str T) ar_Trip_str (hr.mono (by decide)) T.b_Trip_str (passes_call (takes_of rfl rfl rfl rfl) (fun _ _ _ _ h => h))) rfl T.n_str bt_str (pma_cons (pm_make (c := 9) T.mk_Stay (ok_Stay_init T) ar_Stay_init (hr.mono (by decide)) rfl T.m_Stay T.b_Stay_init (passes_call (takes_of rfl rfl rfl rfl) (fun _ _ _ _ h => h)) (pma_cons pm_str (pma_cons pm_str (pma_cons pm_int (pma_cons (pm_pow pm_int pm_int) pma_nil))))) pma_nil)) pm_str (nomark _))))))))
end
end Ol

namespace Ol
open PySem L2 LamX
def isI : D → Bool
  | .int _ => true
  | _ => false
/-- values that the checks speak of -/
def PlainD : D → Prop
  | .non | .bl _ | .int _ | .str _ | .lst _ | .tup _ | .dct _ => True
  | _ => False
theorem e_is_integer {d : D} (S : Store) (h : PlainD d) : F_is_integer [d] S = .ok (.bl (isI d)) S := by
  unfold F_is_integer
  refine (x_run (by rfl)).trans ?_
  cases d <;> first | exact h.elim | simp only [ap_f2, ap_cons, ap_cons2, ap_and, ap_or, ap_not, ap_if, ap_andV, ap_andV2, ap_orV, ap_orV2, ap_notV, ap_notV2, ap_ch1, ap_ch2, ap_ch3, ap_ch4, ap_lst, ap_tup, ap_lstM, ap_sl, ap_sl2, ap_ret, ap_drop, ap_set, ap_nx, ap_asg, ap_par, ap_par3, ap_r1, ap_r2, ap_si1, ap_si2, ap_si3, ap_sf1, ap_sf2, ap_for, ap_lcE, x_var, vK_some, x_c, x_f1, x_f2, x_nil, x_cons, x_and, x_or, x_not, x_if, x_andV, x_orV, x_notV, x_chain, x_lst, x_tup, x_lstM, x_sl, x_seq, sqK_nx, sqK_rt, sqK_bk, sqK_ct, x_ret, x_retN, x_drop, x_next, x_brk, x_cnt, x_set, x_asg, x_par, x_par3, x_raise1, x_raise2, x_setI, x_setF, endK_rt, endK_nx, x_for, x_bind, bd_ok, bd_er, bd_bad, bnd_bd, ret_ap, bad_ap, ite_ap, List.map_cons, List.map_nil, List.length_cons, List.length_nil, List.cons_append, List.nil_append, List.replicate, List.getElem?_cons_zero, List.getElem?_cons_succ, List.set_cons_zero, List.set_cons_succ, if_true, if_false, Bool.true_eq_false, Bool.false_eq_true, Bool.not_true, Bool.not_false, ite_true, ite_false, ↓reduceIte, Nat.reduceSub, Nat.reduceAdd, big, Nat.reduceLeDiff, Nat.zero_le, decide_true, decide_false, eq_self, dBool, dAdd, dSub, dMul, dMod, dFdiv, dPow, dNeg, dLt, dLe, dGt, dGe, eqG_int, eqG_str, eqG_bl, xor_t, xor_f, dIsN, dNotN, dTru, dIx, dLen, dAbs, dInt, dStr, dMax2, dMin2, kt0, kt1, kt2, kt3, kt4, kt5, kt6, kt7, kt8, kt9, kt10, kt11, kt12, kt13, kt14, kt15, kt16, kt17, kt18, kt19, kt20, kt21, kt22, kt23, kt24, kt25, kt26, kt27, kt28, kt29, kt30, kt31, kt32, kt33, kt34, kt35, kt36, kt37, kt38, kt39, kt40, kt41, kt42, kt43, kt44, kt45, kt46, kt47, kt48, kt49, kt50, kt51, kt52, kt53, kt54, kt55, kt56, kt57, kt58, kt59, kt60, kt61, kt62, kt63, kt64, kt65, kt66, kt67, kt68, kt69, kt70, kt71, kt72, kt73, kt74, kt75, kt76, kty, ko6, ko8, ko9, ke3, dIsi, kindOf, tagOf, clsTag, isI]
theorem e_int (i : Int) (S : Store) : F_is_integer [.int i] S = .ok (.bl true) S := e_is_integer S trivial
theorem e_is_between (i lo hi : Int) (S : Store) : F_is_between [.int i, .int lo, .int hi] S = .ok (.bl (decide (lo ≤ i ∧ i ≤ hi))) S := by
  unfold F_is_between
  refine (x_run (by rfl)).trans ?_
  simp only [ap_f2, ap_cons, ap_cons2, ap_and, ap_or, ap_not, ap_if, ap_andV, ap_andV2, ap_orV, ap_orV2, ap_notV, ap_notV2, ap_ch1, ap_ch2, ap_ch3, ap_ch4, ap_lst, ap_tup, ap_lstM, ap_sl, ap_sl2, ap_ret, ap_drop, ap_set, ap_nx, ap_asg, ap_par, ap_par3, ap_r1, ap_r2, ap_si1, ap_si2, ap_si3, ap_sf1, ap_sf2, ap_for, ap_lcE, x_var, vK_some, x_c, x_f1, x_f2, x_nil, x_cons, x_and, x_or, x_not, x_if, x_andV, x_orV, x_notV, x_chain, x_lst, x_tup, x_lstM, x_sl, x_seq, sqK_nx, sqK_rt, sqK_bk, sqK_ct, x_ret, x_retN, x_drop, x_next, x_brk, x_cnt, x_set, x_asg, x_par, x_par3, x_raise1, x_raise2, x_setI, x_setF, endK_rt, endK_nx, x_for, x_bind, bd_ok, bd_er, bd_bad, bnd_bd, ret_ap, bad_ap, ite_ap, List.map_cons, List.map_nil, List.length_cons, List.length_nil, List.cons_append, List.nil_append, List.replicate, List.getElem?_cons_zero, List.getElem?_cons_succ, List.set_cons_zero, List.set_cons_succ, if_true, if_false, Bool.true_eq_false, Bool.false_eq_true, Bool.not_true, Bool.not_false, ite_true, ite_false, ↓reduceIte, Nat.reduceSub, Nat.reduceAdd, big, Nat.reduceLeDiff, Nat.zero_le, decide_true, decide_false, eq_self, dBool, dAdd, dSub, dMul, dMod, dFdiv, dPow, dNeg, dLt, dLe, dGt, dGe, eqG_int, eqG_str, eqG_bl, xor_t, xor_f, dIsN, dNotN, dTru, dIx, dLen, dAbs, dInt, dStr, dMax2, dMin2, e_int]
  by_cases h : lo ≤ i
  · simp only [h, decide_true, ap_f2, ap_cons, ap_cons2, ap_and, ap_or, ap_not, ap_if, ap_andV, ap_andV2, ap_orV, ap_orV2, ap_notV, ap_notV2, ap_ch1, ap_ch2, ap_ch3, ap_ch4, ap_lst, ap_tup, ap_lstM, ap_sl, ap_sl2, ap_ret, ap_drop, ap_set, ap_nx, ap_asg, ap_par, ap_par3, ap_r1, ap_r2, ap_si1, ap_si2, ap_si3, ap_sf1, ap_sf2, ap_for, ap_lcE, x_var, vK_some, x_c, x_f1, x_f2, x_nil, x_cons, x_and, x_or, x_not, x_if, x_andV, x_orV, x_notV, x_chain, x_lst, x_tup, x_lstM, x_sl, x_seq, sqK_nx, sqK_rt, sqK_bk, sqK_ct, x_ret, x_retN, x_drop, x_next, x_brk, x_cnt, x_set, x_asg, x_par, x_par3, x_raise1, x_raise2, x_setI, x_setF, endK_rt, endK_nx, x_for, x_bind, bd_ok, bd_er, bd_bad, bnd_bd, ret_ap, bad_ap, ite_ap, List.map_cons, List.map_nil, List.length_cons, List.length_nil, List.cons_append, List.nil_append, List.replicate, List.getElem?_cons_zero, List.getElem?_cons_succ, List.set_cons_zero, List.set_cons_succ, if_true, if_false, Bool.true_eq_false, Bool.false_eq_true, Bool.not_true, Bool.not_false, ite_true, ite_false, ↓reduceIte, Nat.reduceSub, Nat.reduceAdd, big, Nat.reduceLeDiff, Nat.zero_le, decide_true, decide_false, eq_self, true_and]
  · simp only [h, decide_false, ap_f2, ap_cons, ap_cons2, ap_and, ap_or, ap_not, ap_if, ap_andV, ap_andV2, ap_orV, ap_orV2, ap_notV, ap_notV2, ap_ch1, ap_ch2, ap_ch3, ap_ch4, ap_lst, ap_tup, ap_lstM, ap_sl, ap_sl2, ap_ret, ap_drop, ap_set, ap_nx, ap_asg, ap_par, ap_par3, ap_r1, ap_r2, ap_si1, ap_si2, ap_si3, ap_sf1, ap_sf2, ap_for, ap_lcE, x_var, vK_some, x_c, x_f1, x_f2, x_nil, x_cons, x_and, x_or, x_not, x_if, x_andV, x_orV, x_notV, x_chain, x_lst, x_tup, x_lstM, x_sl, x_seq, sqK_nx, sqK_rt, sqK_bk, sqK_ct, x_ret, x_retN, x_drop, x_next, x_brk, x_cnt, x_set, x_asg, x_par, x_par3, x_raise1, x_raise2, x_setI, x_setF, endK_rt, endK_nx, x_for, x_bind, bd_ok, bd_er, bd_bad, bnd_bd, ret_ap, bad_ap, ite_ap, List.map_cons, List.map_nil, List.length_cons, List.length_nil, List.cons_append, List.nil_append, List.replicate, List.getElem?_cons_zero, List.getElem?_cons_succ, List.set_cons_zero, List.set_cons_succ, if_true, if_false, Bool.true_eq_false, Bool.false_eq_true, Bool.not_true, Bool.not_false, ite_true, ite_false, ↓reduceIte, Nat.reduceSub, Nat.reduceAdd, big, Nat.reduceLeDiff, Nat.zero_le, decide_true, decide_false, eq_self, false_and]
theorem e_is_betweenN {d : D} (lo hi : Int) (S : Store) (h : PlainD d) (h2 : isI d = false) : F_is_between [d, .int lo, .int hi] S = .ok (.bl false) S := by
  unfold F_is_between
  refine (x_run (by rfl)).trans ?_
  simp only [ap_f2, ap_cons, ap_cons2, ap_and, ap_or, ap_not, ap_if, ap_andV, ap_andV2, ap_orV, ap_orV2, ap_notV, ap_notV2, ap_ch1, ap_ch2, ap_ch3, ap_ch4, ap_lst, ap_tup, ap_lstM, ap_sl, ap_sl2, ap_ret, ap_drop, ap_set, ap_nx, ap_asg, ap_par, ap_par3, ap_r1, ap_r2, ap_si1, ap_si2, ap_si3, ap_sf1, ap_sf2, ap_for, ap_lcE, x_var, vK_some, x_c, x_f1, x_f2, x_nil, x_cons, x_and, x_or, x_not, x_if, x_andV, x_orV, x_notV, x_chain, x_lst, x_tup, x_lstM, x_sl, x_seq, sqK_nx, sqK_rt, sqK_bk, sqK_ct, x_ret, x_retN, x_drop, x_next, x_brk, x_cnt, x_set, x_asg, x_par, x_par3, x_raise1, x_raise2, x_setI, x_setF, endK_rt, endK_nx, x_for, x_bind, bd_ok, bd_er, bd_bad, bnd_bd, ret_ap, bad_ap, ite_ap, List.map_cons, List.map_nil, List.length_cons, List.length_nil, List.cons_append, List.nil_append, List.replicate, List.getElem?_cons_zero, List.getElem?_cons_succ, List.set_cons_zero, List.set_cons_succ, if_true, if_false, Bool.true_eq_false, Bool.false_eq_true, Bool.not_true, Bool.not_false, ite_true, ite_false, ↓reduceIte, Nat.reduceSub, Nat.reduceAdd, big, Nat.reduceLeDiff, Nat.zero_le, decide_true, decide_false, eq_self, dBool, dAdd, dSub, dMul, dMod, dFdiv, dPow, dNeg, dLt, dLe, dGt, dGe, eqG_int, eqG_str, eqG_bl, xor_t, xor_f, dIsN, dNotN, dTru, dIx, dLen, dAbs, dInt, dStr, dMax2, dMin2, e_is_integer S h, h2]
theorem e_is_number (i : Int) (S : Store) : F_is_number [.int i] S = .ok (.bl (decide (0 ≤ i ∧ i ≤ 1000000000000))) S := by
  unfold F_is_number
  refine (x_run (by rfl)).trans ?_
  simp only [ap_f2, ap_cons, ap_cons2, ap_and, ap_or, ap_not, ap_if, ap_andV, ap_andV2, ap_orV, ap_orV2, ap_notV, ap_notV2, ap_ch1, ap_ch2, ap_ch3, ap_ch4, ap_lst, ap_tup, ap_lstM, ap_sl, ap_sl2, ap_ret, ap_drop, ap_set, ap_nx, ap_asg, ap_par, ap_par3, ap_r1, ap_r2, ap_si1, ap_si2, ap_si3, ap_sf1, ap_sf2, ap_for, ap_lcE, x_var, vK_some, x_c, x_f1, x_f2, x_nil, x_cons, x_and, x_or, x_not, x_if, x_andV, x_orV, x_notV, x_chain, x_lst, x_tup, x_lstM, x_sl, x_seq, sqK_nx, sqK_rt, sqK_bk, sqK_ct, x_ret, x_retN, x_drop, x_next, x_brk, x_cnt, x_set, x_asg, x_par, x_par3, x_raise1, x_raise2, x_setI, x_setF, endK_rt, endK_nx, x_for, x_bind, bd_ok, bd_er, bd_bad, bnd_bd, ret_ap, bad_ap, ite_ap, List.map_cons, List.map_nil, List.length_cons, List.length_nil, List.cons_append, List.nil_append, List.replicate, List.getElem?_cons_zero, List.getElem?_cons_succ, List.set_cons_zero, List.set_cons_succ, if_true, if_false, Bool.true_eq_false, Bool.false_eq_true, Bool.not_true, Bool.not_false, ite_true, ite_false, ↓reduceIte, Nat.reduceSub, Nat.reduceAdd, big, Nat.reduceLeDiff, Nat.zero_le, decide_true, decide_false, eq_self, dBool, dAdd, dSub, dMul, dMod, dFdiv, dPow, dNeg, dLt, dLe, dGt, dGe, eqG_int, eqG_str, eqG_bl, xor_t, xor_f, dIsN, dNotN, dTru, dIx, dLen, dAbs, dInt, dStr, dMax2, dMin2, e_is_between]
theorem e_is_numberN {d : D} (S : Store) (h : PlainD d) (h2 : isI d = false) : F_is_number [d] S = .ok (.bl false) S := by
  unfold F_is_number
  refine (x_run (by rfl)).trans ?_
  simp only [ap_f2, ap_cons, ap_cons2, ap_and, ap_or, ap_not, ap_if, ap_andV, ap_andV2, ap_orV, ap_orV2, ap_notV, ap_notV2, ap_ch1, ap_ch2, ap_ch3, ap_ch4, ap_lst, ap_tup, ap_lstM, ap_sl, ap_sl2, ap_ret, ap_drop, ap_set, ap_nx, ap_asg, ap_par, ap_par3, ap_r1, ap_r2, ap_si1, ap_si2, ap_si3, ap_sf1, ap_sf2, ap_for, ap_lcE, x_var, vK_some, x_c, x_f1, x_f2, x_nil, x_cons, x_and, x_or, x_not, x_if, x_andV, x_orV, x_notV, x_chain, x_lst, x_tup, x_lstM, x_sl, x_seq, sqK_nx, sqK_rt, sqK_bk, sqK_ct, x_ret, x_retN, x_drop, x_next, x_brk, x_cnt, x_set, x_asg, x_par, x_par3, x_raise1, x_raise2, x_setI, x_setF, endK_rt, endK_nx, x_for, x_bind, bd_ok, bd_er, bd_bad, bnd_bd, ret_ap, bad_ap, ite_ap, List.map_cons, List.map_nil, List.length_cons, List.length_nil, List.cons_append, List.nil_append, List.replicate, List.getElem?_cons_zero, List.getElem?_cons_succ, List.set_cons_zero, List.set_cons_succ, if_true, if_false, Bool.true_eq_false, Bool.false_eq_true, Bool.not_true, Bool.not_false, ite_true, ite_false, ↓reduceIte, Nat.reduceSub, Nat.reduceAdd, big, Nat.reduceLeDiff, Nat.zero_le, decide_true, decide_false, eq_self, dBool, dAdd, dSub, dMul, dMod, dFdiv, dPow, dNeg, dLt, dLe, dGt, dGe, eqG_int, eqG_str, eqG_bl, xor_t, xor_f, dIsN, dNotN, dTru, dIx, dLen, dAbs, dInt, dStr, dMax2, dMin2, e_is_betweenN _ _ _ h h2]
def isStr : D → Bool
  | .str _ => true
  | _ => false
theorem e_is_name (z : Str) (S : Store) (hz : z.length ≤ 1000) : F_is_name [.str z] S = .ok (.bl (isName z)) S := by
  unfold F_is_name
  refine (x_run (by rfl)).trans ?_
  have hb : z.length ≤ big := Nat.le_trans hz (by decide)
  simp only [ap_f2, ap_cons, ap_cons2, ap_and, ap_or, ap_not, ap_if, ap_andV, ap_andV2, ap_orV, ap_orV2, ap_notV, ap_notV2, ap_ch1, ap_ch2, ap_ch3, ap_ch4, ap_lst, ap_tup, ap_lstM, ap_sl, ap_sl2, ap_ret, ap_drop, ap_set, ap_nx, ap_asg, ap_par, ap_par3, ap_r1, ap_r2, ap_si1, ap_si2, ap_si3, ap_sf1, ap_sf2, ap_for, ap_lcE, x_var, vK_some, x_c, x_f1, x_f2, x_nil, x_cons, x_and, x_or, x_not, x_if, x_andV, x_orV, x_notV, x_chain, x_lst, x_tup, x_lstM, x_sl, x_seq, sqK_nx, sqK_rt, sqK_bk, sqK_ct, x_ret, x_retN, x_drop, x_next, x_brk, x_cnt, x_set, x_asg, x_par, x_par3, x_raise1, x_raise2, x_setI, x_setF, endK_rt, endK_nx, x_for, x_bind, bd_ok, bd_er, bd_bad, bnd_bd, ret_ap, bad_ap, ite_ap, List.map_cons, List.map_nil, List.length_cons, List.length_nil, List.cons_append, List.nil_append, List.replicate, List.getElem?_cons_zero, List.getElem?_cons_succ, List.set_cons_zero, List.set_cons_succ, if_true, if_false, Bool.true_eq_false, Bool.false_eq_true, Bool.not_true, Bool.not_false, ite_true, ite_false, ↓reduceIte, Nat.reduceSub, Nat.reduceAdd, big, Nat.reduceLeDiff, Nat.zero_le, decide_true, decide_false, eq_self, dBool, dAdd, dSub, dMul, dMod, dFdiv, dPow, dNeg, dLt, dLe, dGt, dGe, eqG_int, eqG_str, eqG_bl, xor_t, xor_f, dIsN, dNotN, dTru, dIx, dLen, dAbs, dInt, dStr, dMax2, dMin2, kt0, kt1, kt2, kt3, kt4, kt5, kt6, kt7, kt8, kt9, kt10, kt11, kt12, kt13, kt14, kt15, kt16, kt17, kt18, kt19, kt20, kt21, kt22, kt23, kt24, kt25, kt26, kt27, kt28, kt29, kt30, kt31, kt32, kt33, kt34, kt35, kt36, kt37, kt38, kt39, kt40, kt41, kt42, kt43, kt44, kt45, kt46, kt47, kt48, kt49, kt50, kt51, kt52, kt53, kt54, kt55, kt56, kt57, kt58, kt59, kt60, kt61, kt62, kt63, kt64, kt65, kt66, kt67, kt68, kt69, kt70, kt71, kt72, kt73, kt74, kt75, kt76, kty, ko6, ko8, ko9, ke3, dIsi, kindOf, tagOf, clsTag, hb]
  by_cases h1 : 1 ≤ z.length
  · by_cases h2 : z.length ≤ 8
    · have e1 : ((1 : Int) ≤ (z.length : Int)) = True := by simp; omega
      have e2 : ((z.length : Int) ≤ 8) = True := by simp; omega
      have lc : loopC (.nm 1) fYes (f2 dIn (fVar 1) (fC (D.str "abcdefghijklmnopqrstuvwxyz"))) (wipe8 [some (.str z), none] (Pat.nm 1).slots) (z.cps.toList.map fun c => .str ⟨#[c]⟩) S = .ok ((z.cps.toList.map fun c => D.str ⟨#[c]⟩).map fun d => match d with | .str y => .bl (inS y "abcdefghijklmnopqrstuvwxyz") | d => d) S := by
        refine lc_map8 fun d hd => ⟨[some (.str z), some d], ?_, ?_⟩
        · rw [x_bind]; rfl
        · obtain ⟨c, _, rfl⟩ := List.mem_map.mp hd
          simp only [ap_f2, ap_cons, ap_cons2, ap_and, ap_or, ap_not, ap_if, ap_andV, ap_andV2, ap_orV, ap_orV2, ap_notV, ap_notV2, ap_ch1, ap_ch2, ap_ch3, ap_ch4, ap_lst, ap_tup, ap_lstM, ap_sl, ap_sl2, ap_ret, ap_drop, ap_set, ap_nx, ap_asg, ap_par, ap_par3, ap_r1, ap_r2, ap_si1, ap_si2, ap_si3, ap_sf1, ap_sf2, ap_for, ap_lcE, x_var, vK_some, x_c, x_f1, x_f2, x_nil, x_cons, x_and, x_or, x_not, x_if, x_andV, x_orV, x_notV, x_chain, x_lst, x_tup, x_lstM, x_sl, x_seq, sqK_nx, sqK_rt, sqK_bk, sqK_ct, x_ret, x_retN, x_drop, x_next, x_brk, x_cnt, x_set, x_asg, x_par, x_par3, x_raise1, x_raise2, x_setI, x_setF, endK_rt, endK_nx, x_for, x_bind, bd_ok, bd_er, bd_bad, bnd_bd, ret_ap, bad_ap, ite_ap, List.map_cons, List.map_nil, List.length_cons, List.length_nil, List.cons_append, List.nil_append, List.replicate, List.getElem?_cons_zero, List.getElem?_cons_succ, List.set_cons_zero, List.set_cons_succ, if_true, if_false, Bool.true_eq_false, Bool.false_eq_true, Bool.not_true, Bool.not_false, ite_true, ite_false, ↓reduceIte, Nat.reduceSub, Nat.reduceAdd, big, Nat.reduceLeDiff, Nat.zero_le, decide_true, decide_false, eq_self, dIn, dInG, Bool.false_bne, Bool.false_xor, bne_iff_ne, Bool.xor_false]
      have hl : (z.cps.toList.map fun c => D.str ⟨#[c]⟩).length ≤ big := by rw [List.length_map, Array.length_toList]; exact hb
      simp only [e1, e2, decide_true, decide_false, ap_f2, ap_cons, ap_cons2, ap_and, ap_or, ap_not, ap_if, ap_andV, ap_andV2, ap_orV, ap_orV2, ap_notV, ap_notV2, ap_ch1, ap_ch2, ap_ch3, ap_ch4, ap_lst, ap_tup, ap_lstM, ap_sl, ap_sl2, ap_ret, ap_drop, ap_set, ap_nx, ap_asg, ap_par, ap_par3, ap_r1, ap_r2, ap_si1, ap_si2, ap_si3, ap_sf1, ap_sf2, ap_for, ap_lcE, x_var, vK_some, x_c, x_f1, x_f2, x_nil, x_cons, x_and, x_or, x_not, x_if, x_andV, x_orV, x_notV, x_chain, x_lst, x_tup, x_lstM, x_sl, x_seq, sqK_nx, sqK_rt, sqK_bk, sqK_ct, x_ret, x_retN, x_drop, x_next, x_brk, x_cnt, x_set, x_asg, x_par, x_par3, x_raise1, x_raise2, x_setI, x_setF, endK_rt, endK_nx, x_for, x_bind, bd_ok, bd_er, bd_bad, bnd_bd, ret_ap, bad_ap, ite_ap, List.map_cons, List.map_nil, List.length_cons, List.length_nil, List.cons_append, List.nil_append, List.replicate, List.getElem?_cons_zero, List.getElem?_cons_succ, List.set_cons_zero, List.set_cons_succ, if_true, if_false, Bool.true_eq_false, Bool.false_eq_true, Bool.not_true, Bool.not_false, ite_true, ite_false, ↓reduceIte, Nat.reduceSub, Nat.reduceAdd, big, Nat.reduceLeDiff, Nat.zero_le, decide_true, decide_false, eq_self, dBool, dAdd, dSub, dMul, dMod, dFdiv, dPow, dNeg, dLt, dLe, dGt, dGe, eqG_int, eqG_str, eqG_bl, xor_t, xor_f, dIsN, dNotN, dTru, dIx, dLen, dAbs, dInt, dStr, dMax2, dMin2, x_lc, ap_lc, dItems, hl, noEr_ok lc, dAll, asL, List.map_map, Option.bind]
      have e3 : blsOf (z.cps.toList.map ((fun d => match d with | .str y => D.bl (inS y "abcdefghijklmnopqrstuvwxyz") | d => d) ∘ fun c => D.str ⟨#[c]⟩)) = some (z.cps.toList.map isLet) := by
        rw [← blsOf_map]
        congr 1
        rw [List.map_map]
        rfl
      simp only [e3, ap_f2, ap_cons, ap_cons2, ap_and, ap_or, ap_not, ap_if, ap_andV, ap_andV2, ap_orV, ap_orV2, ap_notV, ap_notV2, ap_ch1, ap_ch2, ap_ch3, ap_ch4, ap_lst, ap_tup, ap_lstM, ap_sl, ap_sl2, ap_ret, ap_drop, ap_set, ap_nx, ap_asg, ap_par, ap_par3, ap_r1, ap_r2, ap_si1, ap_si2, ap_si3, ap_sf1, ap_sf2, ap_for, ap_lcE, x_var, vK_some, x_c, x_f1, x_f2, x_nil, x_cons, x_and, x_or, x_not, x_if, x_andV, x_orV, x_notV, x_chain, x_lst, x_tup, x_lstM, x_sl, x_seq, sqK_nx, sqK_rt, sqK_bk, sqK_ct, x_ret, x_retN, x_drop, x_next, x_brk, x_cnt, x_set, x_asg, x_par, x_par3, x_raise1, x_raise2, x_setI, x_setF, endK_rt, endK_nx, x_for, x_bind, bd_ok, bd_er, bd_bad, bnd_bd, ret_ap, bad_ap, ite_ap, List.map_cons, List.map_nil, List.length_cons, List.length_nil, List.cons_append, List.nil_append, List.replicate, List.getElem?_cons_zero, List.getElem?_cons_succ, List.set_cons_zero, List.set_cons_succ, if_true, if_false, Bool.true_eq_false, Bool.false_eq_true, Bool.not_true, Bool.not_false, ite_true, ite_false, ↓reduceIte, Nat.reduceSub, Nat.reduceAdd, big, Nat.reduceLeDiff, Nat.zero_le, decide_true, decide_false, eq_self]
      congr 2
      unfold isName
      rw [decide_eq_true (⟨h1, h2⟩ : 1 ≤ z.length ∧ z.length ≤ 8), Bool.true_and, List.all_map]
      rfl
    · have e1 : ((1 : Int) ≤ (z.length : Int)) = True := by simp; omega
      have e2 : ((z.length : Int) ≤ 8) = False := by simp; omega
      simp only [e1, e2, decide_true, decide_false, ap_f2, ap_cons, ap_cons2, ap_and, ap_or, ap_not, ap_if, ap_andV, ap_andV2, ap_orV, ap_orV2, ap_notV, ap_notV2, ap_ch1, ap_ch2, ap_ch3, ap_ch4, ap_lst, ap_tup, ap_lstM, ap_sl, ap_sl2, ap_ret, ap_drop, ap_set, ap_nx, ap_asg, ap_par, ap_par3, ap_r1, ap_r2, ap_si1, ap_si2, ap_si3, ap_sf1, ap_sf2, ap_for, ap_lcE, x_var, vK_some, x_c, x_f1, x_f2, x_nil, x_cons, x_and, x_or, x_not, x_if, x_andV, x_orV, x_notV, x_chain, x_lst, x_tup, x_lstM, x_sl, x_seq, sqK_nx, sqK_rt, sqK_bk, sqK_ct, x_ret, x_retN, x_drop, x_next, x_brk, x_cnt, x_set, x_asg, x_par, x_par3, x_raise1, x_raise2, x_setI, x_setF, endK_rt, endK_nx, x_for, x_bind, bd_ok, bd_er, bd_bad, bnd_bd, ret_ap, bad_ap, ite_ap, List.map_cons, List.map_nil, List.length_cons, List.length_nil, List.cons_append, List.nil_append, List.replicate, List.getElem?_cons_zero, List.getElem?_cons_succ, List.set_cons_zero, List.set_cons_succ, if_true, if_false, Bool.true_eq_false, Bool.false_eq_true, Bool.not_true, Bool.not_false, ite_true, ite_false, ↓reduceIte, Nat.reduceSub, Nat.reduceAdd, big, Nat.reduceLeDiff, Nat.zero_le, decide_true, decide_false, eq_self, dBool, dAdd, dSub, dMul, dMod, dFdiv, dPow, dNeg, dLt, dLe, dGt, dGe, eqG_int, eqG_str, eqG_bl, xor_t, xor_f, dIsN, dNotN, dTru, dIx, dLen, dAbs, dInt, dStr, dMax2, dMin2]
      congr 2
      unfold isName
      rw [decide_eq_false (show ¬ (1 ≤ z.length ∧ z.length ≤ 8) by omega)]
      rfl
  · have e1 : ((1 : Int) ≤ (z.length : Int)) = False := by simp; omega
    simp only [e1, decide_true, decide_false, ap_f2, ap_cons, ap_cons2, ap_and, ap_or, ap_not, ap_if, ap_andV, ap_andV2, ap_orV, ap_orV2, ap_notV, ap_notV2, ap_ch1, ap_ch2, ap_ch3, ap_ch4, ap_lst, ap_tup, ap_lstM, ap_sl, ap_sl2, ap_ret, ap_drop, ap_set, ap_nx, ap_asg, ap_par, ap_par3, ap_r1, ap_r2, ap_si1, ap_si2, ap_si3, ap_sf1, ap_sf2, ap_for, ap_lcE, x_var, vK_some, x_c, x_f1, x_f2, x_nil, x_cons, x_and, x_or, x_not, x_if, x_andV, x_orV, x_notV, x_chain, x_lst, x_tup, x_lstM, x_sl, x_seq, sqK_nx, sqK_rt, sqK_bk, sqK_ct, x_ret, x_retN, x_drop, x_next, x_brk, x_cnt, x_set, x_asg, x_par, x_par3, x_raise1, x_raise2, x_setI, x_setF, endK_rt, endK_nx, x_for, x_bind, bd_ok, bd_er, bd_bad, bnd_bd, ret_ap, bad_ap, ite_ap, List.map_cons, List.map_nil, List.length_cons, List.length_nil, List.cons_append, List.nil_append, List.replicate, List.getElem?_cons_zero, List.getElem?_cons_succ, List.set_cons_zero, List.set_cons_succ, if_true, if_false, Bool.true_eq_false, Bool.false_eq_true, Bool.not_true, Bool.not_false, ite_true, ite_false, ↓reduceIte, Nat.reduceSub, Nat.reduceAdd, big, Nat.reduceLeDiff, Nat.zero_le, decide_true, decide_false, eq_self, dBool, dAdd, dSub, dMul, dMod, dFdiv, dPow, dNeg, dLt, dLe, dGt, dGe, eqG_int, eqG_str, eqG_bl, xor_t, xor_f, dIsN, dNotN, dTru, dIx, dLen, dAbs, dInt, dStr, dMax2, dMin2]
    congr 2
    unfold isName
    rw [decide_eq_false (show ¬ (1 ≤ z.length ∧ z.length ≤ 8) by omega)]
    rfl
theorem e_is_nameN {d : D} (S : Store) (h : PlainD d) (h2 : isStr d = false) : F_is_name [d] S = .ok (.bl false) S := by
  unfold F_is_name
  refine (x_run (by rfl)).trans ?_
  cases d <;> first | exact h.elim | (cases h2; done) | simp only [ap_f2, ap_cons, ap_cons2, ap_and, ap_or, ap_not, ap_if, ap_andV, ap_andV2, ap_orV, ap_orV2, ap_notV, ap_notV2, ap_ch1, ap_ch2, ap_ch3, ap_ch4, ap_lst, ap_tup, ap_lstM, ap_sl, ap_sl2, ap_ret, ap_drop, ap_set, ap_nx, ap_asg, ap_par, ap_par3, ap_r1, ap_r2, ap_si1, ap_si2, ap_si3, ap_sf1, ap_sf2, ap_for, ap_lcE, x_var, vK_some, x_c, x_f1, x_f2, x_nil, x_cons, x_and, x_or, x_not, x_if, x_andV, x_orV, x_notV, x_chain, x_lst, x_tup, x_lstM, x_sl, x_seq, sqK_nx, sqK_rt, sqK_bk, sqK_ct, x_ret, x_retN, x_drop, x_next, x_brk, x_cnt, x_set, x_asg, x_par, x_par3, x_raise1, x_raise2, x_setI, x_setF, endK_rt, endK_nx, x_for, x_bind, bd_ok, bd_er, bd_bad, bnd_bd, ret_ap, bad_ap, ite_ap, List.map_cons, List.map_nil, List.length_cons, List.length_nil, List.cons_append, List.nil_append, List.replicate, List.getElem?_cons_zero, List.getElem?_cons_succ, List.set_cons_zero, List.set_cons_succ, if_true, if_false, Bool.true_eq_false, Bool.false_eq_true, Bool.not_true, Bool.not_false, ite_true, ite_false, ↓reduceIte, Nat.reduceSub, Nat.reduceAdd, big, Nat.reduceLeDiff, Nat.zero_le, decide_true, decide_false, eq_self, dBool, dAdd, dSub, dMul, dMod, dFdiv, dPow, dNeg, dLt, dLe, dGt, dGe, eqG_int, eqG_str, eqG_bl, xor_t, xor_f, dIsN, dNotN, dTru, dIx, dLen, dAbs, dInt, dStr, dMax2, dMin2, kt0, kt1, kt2, kt3, kt4, kt5, kt6, kt7, kt8, kt9, kt10, kt11, kt12, kt13, kt14, kt15, kt16, kt17, kt18, kt19, kt20, kt21, kt22, kt23, kt24, kt25, kt26, kt27, kt28, kt29, kt30, kt31, kt32, kt33, kt34, kt35, kt36, kt37, kt38, kt39, kt40, kt41, kt42, kt43, kt44, kt45, kt46, kt47, kt48, kt49, kt50, kt51, kt52, kt53, kt54, kt55, kt56, kt57, kt58, kt59, kt60, kt61, kt62, kt63, kt64, kt65, kt66, kt67, kt68, kt69, kt70, kt71, kt72, kt73, kt74, kt75, kt76, kty, ko6, ko8, ko9, ke3, dIsi, kindOf, tagOf, clsTag]
def penO (cells : List Int) (spot great : Int) : O := .lst [.lst (cells.map .int), .int spot, .int great]
/-- a pen that n more draws are let of -/
def Pn (P : O) (n : Nat) : Prop := ∃ (cells : List Int) (spot great : Int), P = penO cells spot great ∧ 0 ≤ spot ∧ spot + n ≤ 4000000 ∧ 0 ≤ great ∧ cells.length ≤ 63
theorem Pn.le {P : O} {m n : Nat} (h : Pn P n) (le : m ≤ n) : Pn P m := by
  obtain ⟨c, s, g, h1, h2, h3, h4⟩ := h
  exact ⟨c, s, g, h1, h2, by omega, h4⟩
theorem limL_ints {k : Nat} : ∀ ns : List Int, D.limL k (ns.map .int) = true
  | [] => rfl
  | n :: r => by rw [List.map_cons, D.limL, limL_ints r]; rfl
theorem Pn.lim {P : O} {n : Nat} (h : Pn P n) (k : Nat) : P.lim k = true := by
  obtain ⟨c, s, g, rfl, _⟩ := h
  show D.limL k [.lst (c.map .int), .int s, .int g] = true
  simp [D.limL, D.lim, limL_ints]
theorem cut63D {ns : List Int} (h : ns.length ≤ 63) : cutD (ns.map .int) none (some 63) = ns.map .int := by
  have e1 : HT.sIx (ns.map D.int).length 0 none = 0 := rfl
  have e2 : HT.sIx (ns.map D.int).length (ns.map D.int).length (some 63) = ns.length := by
    unfold HT.sIx
    simp only [List.length_map]
    first | omega | (split <;> omega) | (simp; omega)
  unfold cutD
  rw [e1, e2, List.drop_zero, Nat.sub_zero, ← List.length_map (f := D.int), List.take_length]
theorem e_pen {ns : List Int} (h : ns.length ≤ 63) : ∃ P, F_pen [.scr ns] [] = .ok (.loc 0) [P] ∧ Pn P 4000000 := by
  refine ⟨penO ns 0 0, ?_, ns, 0, 0, rfl, by decide, by decide, by decide, h⟩
  unfold F_pen
  refine (x_run (by rfl)).trans ?_
  simp only [ap_f2, ap_cons, ap_cons2, ap_and, ap_or, ap_not, ap_if, ap_andV, ap_andV2, ap_orV, ap_orV2, ap_notV, ap_notV2, ap_ch1, ap_ch2, ap_ch3, ap_ch4, ap_lst, ap_tup, ap_lstM, ap_sl, ap_sl2, ap_ret, ap_drop, ap_set, ap_nx, ap_asg, ap_par, ap_par3, ap_r1, ap_r2, ap_si1, ap_si2, ap_si3, ap_sf1, ap_sf2, ap_for, ap_lcE, x_var, vK_some, x_c, x_f1, x_f2, x_nil, x_cons, x_and, x_or, x_not, x_if, x_andV, x_orV, x_notV, x_chain, x_lst, x_tup, x_lstM, x_sl, x_seq, sqK_nx, sqK_rt, sqK_bk, sqK_ct, x_ret, x_retN, x_drop, x_next, x_brk, x_cnt, x_set, x_asg, x_par, x_par3, x_raise1, x_raise2, x_setI, x_setF, endK_rt, endK_nx, x_for, x_bind, bd_ok, bd_er, bd_bad, bnd_bd, ret_ap, bad_ap, ite_ap, List.map_cons, List.map_nil, List.length_cons, List.length_nil, List.cons_append, List.nil_append, List.replicate, List.getElem?_cons_zero, List.getElem?_cons_succ, List.set_cons_zero, List.set_cons_succ, if_true, if_false, Bool.true_eq_false, Bool.false_eq_true, Bool.not_true, Bool.not_false, ite_true, ite_false, ↓reduceIte, Nat.reduceSub, Nat.reduceAdd, big, Nat.reduceLeDiff, Nat.zero_le, decide_true, decide_false, eq_self, dBool, dAdd, dSub, dMul, dMod, dFdiv, dPow, dNeg, dLt, dLe, dGt, dGe, eqG_int, eqG_str, eqG_bl, xor_t, xor_f, dIsN, dNotN, dTru, dIx, dLen, dAbs, dInt, dStr, dMax2, dMin2, dPart, dSl, dList, asL, cut63D h]
  rfl
theorem at_intsD {ns : List Int} {i : Int} (h0 : 0 ≤ i) (h1 : i < ns.length) : ∃ c, atI (ns.map D.int) i = some (.int c) := by
  obtain ⟨j, rfl⟩ : ∃ j : Nat, i = j := ⟨i.toNat, by omega⟩
  have hj : j < ns.length := by omega
  refine ⟨ns[j], ?_⟩
  unfold atI
  rw [List.length_map, Evl.ixN_nat hj]
  simp [hj]
theorem e_draw {P : O} {R : Store} {n : Nat} {many : Int} (pn : Pn P (n + 1)) (hm : 0 < many) (hm2 : many.natAbs < 2 ^ 250) : ∃ d P', F_draw [.loc 0, .int many] (P :: R) = .ok (.int d) (P' :: R) ∧ Pn P' n ∧ 0 ≤ d ∧ d < many := by
  obtain ⟨cells, spot, great, rfl, s0, s1, g0, c0⟩ := pn
  have lg : 0 < many ∧ many.natAbs.log2 < 9000 := ⟨hm, Nat.lt_of_lt_of_le (PySem.Flt.log2_lt_of (by decide) hm2) (by decide)⟩
  have md : ∀ x : Int, 0 ≤ x % many ∧ x % many < many := fun x => ⟨Int.emod_nonneg _ (by omega), Int.emod_lt_of_pos _ hm⟩
  unfold F_draw
  by_cases hg : 0 < great
  · refine ⟨great % many, penO cells spot (great / many), ?_, ⟨cells, spot, great / many, rfl, s0, by omega, Int.ediv_nonneg g0 (by omega), c0⟩, (md _).1, (md _).2⟩
    refine (x_run (by rfl)).trans ?_
    have e1 : atI [D.lst (cells.map .int), .int spot, .int great] 2 = some (.int great) := rfl
    have e2 : ixN 3 2 = some 2 := rfl
    simp only [ap_f2, ap_cons, ap_cons2, ap_and, ap_or, ap_not, ap_if, ap_andV, ap_andV2, ap_orV, ap_orV2, ap_notV, ap_notV2, ap_ch1, ap_ch2, ap_ch3, ap_ch4, ap_lst, ap_tup, ap_lstM, ap_sl, ap_sl2, ap_ret, ap_drop, ap_set, ap_nx, ap_asg, ap_par, ap_par3, ap_r1, ap_r2, ap_si1, ap_si2, ap_si3, ap_sf1, ap_sf2, ap_for, ap_lcE, x_var, vK_some, x_c, x_f1, x_f2, x_nil, x_cons, x_and, x_or, x_not, x_if, x_andV, x_orV, x_notV, x_chain, x_lst, x_tup, x_lstM, x_sl, x_seq, sqK_nx, sqK_rt, sqK_bk, sqK_ct, x_ret, x_retN, x_drop, x_next, x_brk, x_cnt, x_set, x_asg, x_par, x_par3, x_raise1, x_raise2, x_setI, x_setF, endK_rt, endK_nx, x_for, x_bind, bd_ok, bd_er, bd_bad, bnd_bd, ret_ap, bad_ap, ite_ap, List.map_cons, List.map_nil, List.length_cons, List.length_nil, List.cons_append, List.nil_append, List.replicate, List.getElem?_cons_zero, List.getElem?_cons_succ, List.set_cons_zero, List.set_cons_succ, if_true, if_false, Bool.true_eq_false, Bool.false_eq_true, Bool.not_true, Bool.not_false, ite_true, ite_false, ↓reduceIte, Nat.reduceSub, Nat.reduceAdd, big, Nat.reduceLeDiff, Nat.zero_le, decide_true, decide_false, eq_self, dBool, dAdd, dSub, dMul, dMod, dFdiv, dPow, dNeg, dLt, dLe, dGt, dGe, eqG_int, eqG_str, eqG_bl, xor_t, xor_f, dIsN, dNotN, dTru, dIx, dLen, dAbs, dInt, dStr, dMax2, dMin2, penO, asL, e1, hg, decide_true, hm, lg, and_self, e2]
  · have pn' : ∀ gr : Int, 0 ≤ gr → Pn (penO cells (spot + 1) gr) n := fun gr h => ⟨cells, spot + 1, gr, rfl, by omega, by omega, h, c0⟩
    have e1 : ∀ sp gr : Int, atI [D.lst (cells.map .int), .int sp, .int gr] 2 = some (.int gr) := fun _ _ => rfl
    have e2 : ∀ sp gr : Int, atI [D.lst (cells.map .int), .int sp, .int gr] 1 = some (.int sp) := fun _ _ => rfl
    have e0 : ∀ sp gr : Int, atI [D.lst (cells.map .int), .int sp, .int gr] 0 = some (.lst (cells.map .int)) := fun _ _ => rfl
    have i1 : ixN 3 1 = some 1 := rfl
    have i2 : ixN 3 2 = some 2 := rfl
    have e18 : (10 : Int) ^ Int.toNat 18 = 1000000000000000000 := by decide
    have k1 : (Int.natAbs 44701 < 2 ^ 64 ∨ Int.natAbs spot < 2 ^ 64 ∨ (Int.natAbs 44701).log2 + spot.natAbs.log2 < 1000000) = True := by simp
    have k2 : ∀ x : Int, (Int.natAbs 2 < 2 ^ 64 ∨ Int.natAbs x < 2 ^ 64 ∨ (Int.natAbs 2).log2 + x.natAbs.log2 < 1000000) = True := fun x => by simp
    have k3 : (Int.natAbs 61369 < 2 ^ 64 ∨ Int.natAbs spot < 2 ^ 64 ∨ (Int.natAbs 61369).log2 + spot.natAbs.log2 < 1000000) = True := by simp
    have k4 : ∀ x : Int, (Int.natAbs x < 2 ^ 64 ∨ Int.natAbs (2 * spot + 235) < 2 ^ 64 ∨ x.natAbs.log2 + (2 * spot + 235).natAbs.log2 < 1000000) = True := fun x => eq_true (.inr (.inl (by omega)))
    have k5 : (Int.natAbs 36187 < 2 ^ 64 ∨ Int.natAbs spot < 2 ^ 64 ∨ (Int.natAbs 36187).log2 + spot.natAbs.log2 < 1000000) = True := by simp
    have k6 : (Int.natAbs (36187 * spot) < 2 ^ 64 ∨ Int.natAbs spot < 2 ^ 64 ∨ (36187 * spot).natAbs.log2 + spot.natAbs.log2 < 1000000) = True := eq_true (.inr (.inl (by omega)))
    have w1 : ∀ x : Int, (0 ≤ (5 : Int) ∧ (5 : Int) ≤ 1000000 ∧ (x % 2147483563 + 61369 * spot + 857).natAbs < 2 ^ 64) = True := fun x => eq_true ⟨by decide, by decide, by
      have h1 := Int.emod_nonneg x (show (2147483563 : Int) ≠ 0 by decide)
      have h2 := Int.emod_lt_of_pos x (show (0 : Int) < 2147483563 by decide)
      omega⟩
    have w2 : ∀ x : Int, (0 ≤ (3 : Int) ∧ (3 : Int) ≤ 1000000 ∧ (x % 2147483629 * (2 * spot + 235) + 36187 * spot * spot + 71).natAbs < 2 ^ 64) = True := fun x => eq_true ⟨by decide, by decide, mix_lt (Int.emod_nonneg _ (by decide)) (Int.lt_of_lt_of_le (Int.emod_lt_of_pos _ (by decide)) (by decide)) (by omega) (by omega) (by decide) (by decide) (by decide) (by decide) (by decide) (by decide)⟩
    have w18 : (0 ≤ (18 : Int) ∧ (18 : Int) ≤ 1000000 ∧ (10 : Int).natAbs < 2 ^ 64) = True := eq_true (by decide)
    have p3 : (0 < (2147483563 : Int)) = True := eq_true (by decide)
    have p6 : (0 < (2147483629 : Int)) = True := eq_true (by decide)
    have pA : (0 < (2147483587 : Int)) = True := eq_true (by decide)
    have p32 : (0 < (32 : Int) ∧ (32 : Int).natAbs.log2 < 9000) = True := eq_true (by decide)
    have cell : ∀ c : Int, ∃ d gr, 0 ≤ gr ∧ 0 ≤ d ∧ d < many ∧ bd ((sSeq (fIf (fAnd (f1 dBool (f2 dLt (fVar 2) (f1 dLen (fCons (f2 dIx (fVar 0) (fC (.int 0))) fNil)))) (f1 dBool (f2 dGe (f1 dAbs (fCons (fVar 3) fNil)) (f2 dPow (fC (.int 10)) (fC (.int 18)))))) (sSeq (sAsg (.nm 6) (f2 dAdd (f2 dMul (fC (.int 2)) (f2 dSub (f1 dAbs (fCons (fVar 3) fNil)) (f2 dPow (fC (.int 10)) (fC (.int 18))))) (f1 dInt (fCons (f2 dLt (fVar 3) (fC (.int 0))) fNil)))) (sSeq (sSetI (fVar 0) (fC (.int 2)) (f2 dFdiv (f1 dInt (fCons (fVar 6) fNil)) (fVar 1))) (sRet (f2 dMod (f1 dInt (fCons (fVar 6) fNil)) (fVar 1))))) sNext) (sSeq (sAsg (.nm 4) (f2 dMod (f1 dInt (fCons (f2 dPow (f2 dAdd (f2 dAdd (f2 dMod (f1 dInt (fCons (fVar 3) fNil)) (fC (.int 2147483563))) (f2 dMul (fC (.int 61369)) (fVar 2))) (fC (.int 857))) (fC (.int 5))) fNil)) (fC (.int 2147483629)))) (sSeq (sAsg (.nm 4) (f2 dMod (f1 dInt (fCons (f2 dPow (f2 dAdd (f2 dAdd (f2 dMul (fVar 4) (f2 dAdd (f2 dMul (fC (.int 2)) (fVar 2)) (fC (.int 235)))) (f2 dMul (f2 dMul (fC (.int 36187)) (fVar 2)) (fVar 2))) (fC (.int 71))) (fC (.int 3))) fNil)) (fC (.int 2147483587)))) (sRet (f2 dMod (f1 dInt (fCons (f2 dFdiv (fVar 4) (fC (.int 32))) fNil)) (fVar 1)))))) [some (.loc 0), some (.int many), some (.int spot), some (.int c), none, none, none] (penO cells (spot + 1) great :: R)) endK = .ok (.int d) (penO cells (spot + 1) gr :: R) := fun c => by
      by_cases hs : spot < cells.length
      · by_cases hc : (1000000000000000000 : Int) ≤ if c < 0 then -c else c
        · refine ⟨(2 * ((if c < 0 then -c else c) - 1000000000000000000) + if c < 0 then 1 else 0) % many, (2 * ((if c < 0 then -c else c) - 1000000000000000000) + if c < 0 then 1 else 0) / many, ?_, (md _).1, (md _).2, ?_⟩
          · have : 0 ≤ (2 * ((if c < 0 then -c else c) - 1000000000000000000) + if c < 0 then 1 else 0) := by
              generalize (if c < 0 then -c else c) = Y at hc ⊢
              split <;> omega
            exact Int.ediv_nonneg this (by omega)
          · simp only [ap_f2, ap_cons, ap_cons2, ap_and, ap_or, ap_not, ap_if, ap_andV, ap_andV2, ap_orV, ap_orV2, ap_notV, ap_notV2, ap_ch1, ap_ch2, ap_ch3, ap_ch4, ap_lst, ap_tup, ap_lstM, ap_sl, ap_sl2, ap_ret, ap_drop, ap_set, ap_nx, ap_asg, ap_par, ap_par3, ap_r1, ap_r2, ap_si1, ap_si2, ap_si3, ap_sf1, ap_sf2, ap_for, ap_lcE, x_var, vK_some, x_c, x_f1, x_f2, x_nil, x_cons, x_and, x_or, x_not, x_if, x_andV, x_orV, x_notV, x_chain, x_lst, x_tup, x_lstM, x_sl, x_seq, sqK_nx, sqK_rt, sqK_bk, sqK_ct, x_ret, x_retN, x_drop, x_next, x_brk, x_cnt, x_set, x_asg, x_par, x_par3, x_raise1, x_raise2, x_setI, x_setF, endK_rt, endK_nx, x_for, x_bind, bd_ok, bd_er, bd_bad, bnd_bd, ret_ap, bad_ap, ite_ap, List.map_cons, List.map_nil, List.length_cons, List.length_nil, List.cons_append, List.nil_append, List.replicate, List.getElem?_cons_zero, List.getElem?_cons_succ, List.set_cons_zero, List.set_cons_succ, if_true, if_false, Bool.true_eq_false, Bool.false_eq_true, Bool.not_true, Bool.not_false, ite_true, ite_false, ↓reduceIte, Nat.reduceSub, Nat.reduceAdd, big, Nat.reduceLeDiff, Nat.zero_le, decide_true, decide_false, eq_self, dBool, dAdd, dSub, dMul, dMod, dFdiv, dPow, dNeg, dLt, dLe, dGt, dGe, eqG_int, eqG_str, eqG_bl, xor_t, xor_f, dIsN, dNotN, dTru, dIx, dLen, dAbs, dInt, dStr, dMax2, dMin2, penO, asL, e0, e1, e2, i1, i2, hs, decide_true, List.length_map, w18, e18, hc, k2, hm, lg, and_self, decide_eq_true_eq]
        · refine ⟨((((c % 2147483563 + 61369 * spot + 857) ^ Int.toNat 5) % 2147483629 * (2 * spot + 235) + 36187 * spot * spot + 71) ^ Int.toNat 3 % 2147483587) / 32 % many, great, g0, (md _).1, (md _).2, ?_⟩
          simp only [ap_f2, ap_cons, ap_cons2, ap_and, ap_or, ap_not, ap_if, ap_andV, ap_andV2, ap_orV, ap_orV2, ap_notV, ap_notV2, ap_ch1, ap_ch2, ap_ch3, ap_ch4, ap_lst, ap_tup, ap_lstM, ap_sl, ap_sl2, ap_ret, ap_drop, ap_set, ap_nx, ap_asg, ap_par, ap_par3, ap_r1, ap_r2, ap_si1, ap_si2, ap_si3, ap_sf1, ap_sf2, ap_for, ap_lcE, x_var, vK_some, x_c, x_f1, x_f2, x_nil, x_cons, x_and, x_or, x_not, x_if, x_andV, x_orV, x_notV, x_chain, x_lst, x_tup, x_lstM, x_sl, x_seq, sqK_nx, sqK_rt, sqK_bk, sqK_ct, x_ret, x_retN, x_drop, x_next, x_brk, x_cnt, x_set, x_asg, x_par, x_par3, x_raise1, x_raise2, x_setI, x_setF, endK_rt, endK_nx, x_for, x_bind, bd_ok, bd_er, bd_bad, bnd_bd, ret_ap, bad_ap, ite_ap, List.map_cons, List.map_nil, List.length_cons, List.length_nil, List.cons_append, List.nil_append, List.replicate, List.getElem?_cons_zero, List.getElem?_cons_succ, List.set_cons_zero, List.set_cons_succ, if_true, if_false, Bool.true_eq_false, Bool.false_eq_true, Bool.not_true, Bool.not_false, ite_true, ite_false, ↓reduceIte, Nat.reduceSub, Nat.reduceAdd, big, Nat.reduceLeDiff, Nat.zero_le, decide_true, decide_false, eq_self, dBool, dAdd, dSub, dMul, dMod, dFdiv, dPow, dNeg, dLt, dLe, dGt, dGe, eqG_int, eqG_str, eqG_bl, xor_t, xor_f, dIsN, dNotN, dTru, dIx, dLen, dAbs, dInt, dStr, dMax2, dMin2, penO, asL, e0, e1, e2, i1, i2, hs, decide_true, decide_false, List.length_map, w18, e18, hc, k1, k2, k3, k4, k5, k6, w1, w2, p3, p6, pA, p32, hm]
      · refine ⟨((((c % 2147483563 + 61369 * spot + 857) ^ Int.toNat 5) % 2147483629 * (2 * spot + 235) + 36187 * spot * spot + 71) ^ Int.toNat 3 % 2147483587) / 32 % many, great, g0, (md _).1, (md _).2, ?_⟩
        simp only [ap_f2, ap_cons, ap_cons2, ap_and, ap_or, ap_not, ap_if, ap_andV, ap_andV2, ap_orV, ap_orV2, ap_notV, ap_notV2, ap_ch1, ap_ch2, ap_ch3, ap_ch4, ap_lst, ap_tup, ap_lstM, ap_sl, ap_sl2, ap_ret, ap_drop, ap_set, ap_nx, ap_asg, ap_par, ap_par3, ap_r1, ap_r2, ap_si1, ap_si2, ap_si3, ap_sf1, ap_sf2, ap_for, ap_lcE, x_var, vK_some, x_c, x_f1, x_f2, x_nil, x_cons, x_and, x_or, x_not, x_if, x_andV, x_orV, x_notV, x_chain, x_lst, x_tup, x_lstM, x_sl, x_seq, sqK_nx, sqK_rt, sqK_bk, sqK_ct, x_ret, x_retN, x_drop, x_next, x_brk, x_cnt, x_set, x_asg, x_par, x_par3, x_raise1, x_raise2, x_setI, x_setF, endK_rt, endK_nx, x_for, x_bind, bd_ok, bd_er, bd_bad, bnd_bd, ret_ap, bad_ap, ite_ap, List.map_cons, List.map_nil, List.length_cons, List.length_nil, List.cons_append, List.nil_append, List.replicate, List.getElem?_cons_zero, List.getElem?_cons_succ, List.set_cons_zero, List.set_cons_succ, if_true, if_false, Bool.true_eq_false, Bool.false_eq_true, Bool.not_true, Bool.not_false, ite_true, ite_false, ↓reduceIte, Nat.reduceSub, Nat.reduceAdd, big, Nat.reduceLeDiff, Nat.zero_le, decide_true, decide_false, eq_self, dBool, dAdd, dSub, dMul, dMod, dFdiv, dPow, dNeg, dLt, dLe, dGt, dGe, eqG_int, eqG_str, eqG_bl, xor_t, xor_f, dIsN, dNotN, dTru, dIx, dLen, dAbs, dInt, dStr, dMax2, dMin2, penO, asL, e0, e1, e2, i1, i2, hs, decide_true, decide_false, List.length_map, k1, k2, k3, k4, k5, k6, w1, w2, p3, p6, pA, p32, hm]
    cases cells with
    | nil =>
      obtain ⟨d, gr, h1, h2, h3, h4⟩ := cell (44701 * spot + 2159)
      refine ⟨d, _, ?_, pn' gr h1, h2, h3⟩
      refine (x_run (by rfl)).trans ?_
      rw [← h4]
      simp only [List.map_nil] at e0 e1 e2
      simp only [ap_f2, ap_cons, ap_cons2, ap_and, ap_or, ap_not, ap_if, ap_andV, ap_andV2, ap_orV, ap_orV2, ap_notV, ap_notV2, ap_ch1, ap_ch2, ap_ch3, ap_ch4, ap_lst, ap_tup, ap_lstM, ap_sl, ap_sl2, ap_ret, ap_drop, ap_set, ap_nx, ap_asg, ap_par, ap_par3, ap_r1, ap_r2, ap_si1, ap_si2, ap_si3, ap_sf1, ap_sf2, ap_for, ap_lcE, x_var, vK_some, x_c, x_f1, x_f2, x_nil, x_cons, x_and, x_or, x_not, x_if, x_andV, x_orV, x_notV, x_chain, x_lst, x_tup, x_lstM, x_sl, x_seq, sqK_nx, sqK_rt, sqK_bk, sqK_ct, x_ret, x_retN, x_drop, x_next, x_brk, x_cnt, x_set, x_asg, x_par, x_par3, x_raise1, x_raise2, x_setI, x_setF, endK_rt, endK_nx, x_for, x_bind, bd_ok, bd_er, bd_bad, bnd_bd, ret_ap, bad_ap, ite_ap, List.map_cons, List.map_nil, List.length_cons, List.length_nil, List.cons_append, List.nil_append, List.replicate, List.getElem?_cons_zero, List.getElem?_cons_succ, List.set_cons_zero, List.set_cons_succ, if_true, if_false, Bool.true_eq_false, Bool.false_eq_true, Bool.not_true, Bool.not_false, ite_true, ite_false, ↓reduceIte, Nat.reduceSub, Nat.reduceAdd, big, Nat.reduceLeDiff, Nat.zero_le, decide_true, decide_false, eq_self, dBool, dAdd, dSub, dMul, dMod, dFdiv, dPow, dNeg, dLt, dLe, dGt, dGe, eqG_int, eqG_str, eqG_bl, xor_t, xor_f, dIsN, dNotN, dTru, dIx, dLen, dAbs, dInt, dStr, dMax2, dMin2, penO, asL, e0, e1, e2, i1, i2, hg, decide_false, k1, ne_nil0]
    | cons c0' cr =>
      have hl : (0 : Int) < ((cr.length + 1 : Nat) : Int) := by omega
      obtain ⟨c, hc⟩ := at_intsD (ns := c0' :: cr) (i := spot % ((cr.length + 1 : Nat) : Int)) (Int.emod_nonneg _ (by omega)) (Int.emod_lt_of_pos _ hl)
      obtain ⟨d, gr, h1, h2, h3, h4⟩ := cell c
      refine ⟨d, _, ?_, pn' gr h1, h2, h3⟩
      refine (x_run (by rfl)).trans ?_
      rw [← h4]
      simp only [List.map_cons] at hc e0 e1 e2
      simp only [ap_f2, ap_cons, ap_cons2, ap_and, ap_or, ap_not, ap_if, ap_andV, ap_andV2, ap_orV, ap_orV2, ap_notV, ap_notV2, ap_ch1, ap_ch2, ap_ch3, ap_ch4, ap_lst, ap_tup, ap_lstM, ap_sl, ap_sl2, ap_ret, ap_drop, ap_set, ap_nx, ap_asg, ap_par, ap_par3, ap_r1, ap_r2, ap_si1, ap_si2, ap_si3, ap_sf1, ap_sf2, ap_for, ap_lcE, x_var, vK_some, x_c, x_f1, x_f2, x_nil, x_cons, x_and, x_or, x_not, x_if, x_andV, x_orV, x_notV, x_chain, x_lst, x_tup, x_lstM, x_sl, x_seq, sqK_nx, sqK_rt, sqK_bk, sqK_ct, x_ret, x_retN, x_drop, x_next, x_brk, x_cnt, x_set, x_asg, x_par, x_par3, x_raise1, x_raise2, x_setI, x_setF, endK_rt, endK_nx, x_for, x_bind, bd_ok, bd_er, bd_bad, bnd_bd, ret_ap, bad_ap, ite_ap, List.map_cons, List.map_nil, List.length_cons, List.length_nil, List.cons_append, List.nil_append, List.replicate, List.getElem?_cons_zero, List.getElem?_cons_succ, List.set_cons_zero, List.set_cons_succ, if_true, if_false, Bool.true_eq_false, Bool.false_eq_true, Bool.not_true, Bool.not_false, ite_true, ite_false, ↓reduceIte, Nat.reduceSub, Nat.reduceAdd, big, Nat.reduceLeDiff, Nat.zero_le, decide_true, decide_false, eq_self, dBool, dAdd, dSub, dMul, dMod, dFdiv, dPow, dNeg, dLt, dLe, dGt, dGe, eqG_int, eqG_str, eqG_bl, xor_t, xor_f, dIsN, dNotN, dTru, dIx, dLen, dAbs, dInt, dStr, dMax2, dMin2, penO, asL, e0, e1, e2, i1, i2, hg, decide_false, k1, ne_nil1, List.length_map, hl, hc]
theorem at_memD {xs : List D} {i : Int} (h0 : 0 ≤ i) (h1 : i < xs.length) : ∃ v, atI xs i = some v ∧ v ∈ xs := by
  obtain ⟨j, rfl⟩ : ∃ j : Nat, i = j := ⟨i.toNat, by omega⟩
  have hj : j < xs.length := by omega
  refine ⟨xs[j], ?_, List.getElem_mem hj⟩
  unfold atI
  rw [Evl.ixN_nat hj]
  simp [hj]
theorem e_pick {P : O} {R : Store} {n : Nat} {xs : List D} (pn : Pn P (n + 1)) (h0 : 0 < xs.length) (h1 : xs.length ≤ 1000) : ∃ v P', F_pick [.loc 0, .lst xs] (P :: R) = .ok v (P' :: R) ∧ Pn P' n ∧ v ∈ xs := by
  obtain ⟨d, P', e, pn', d0, d1⟩ := e_draw (R := R) (many := xs.length) pn (by omega) (by omega)
  obtain ⟨v, hv, hm⟩ := at_memD d0 d1
  refine ⟨v, P', ?_, pn', hm⟩
  unfold F_pick
  refine (x_run (by rfl)).trans ?_
  simp only [ap_f2, ap_cons, ap_cons2, ap_and, ap_or, ap_not, ap_if, ap_andV, ap_andV2, ap_orV, ap_orV2, ap_notV, ap_notV2, ap_ch1, ap_ch2, ap_ch3, ap_ch4, ap_lst, ap_tup, ap_lstM, ap_sl, ap_sl2, ap_ret, ap_drop, ap_set, ap_nx, ap_asg, ap_par, ap_par3, ap_r1, ap_r2, ap_si1, ap_si2, ap_si3, ap_sf1, ap_sf2, ap_for, ap_lcE, x_var, vK_some, x_c, x_f1, x_f2, x_nil, x_cons, x_and, x_or, x_not, x_if, x_andV, x_orV, x_notV, x_chain, x_lst, x_tup, x_lstM, x_sl, x_seq, sqK_nx, sqK_rt, sqK_bk, sqK_ct, x_ret, x_retN, x_drop, x_next, x_brk, x_cnt, x_set, x_asg, x_par, x_par3, x_raise1, x_raise2, x_setI, x_setF, endK_rt, endK_nx, x_for, x_bind, bd_ok, bd_er, bd_bad, bnd_bd, ret_ap, bad_ap, ite_ap, List.map_cons, List.map_nil, List.length_cons, List.length_nil, List.cons_append, List.nil_append, List.replicate, List.getElem?_cons_zero, List.getElem?_cons_succ, List.set_cons_zero, List.set_cons_succ, if_true, if_false, Bool.true_eq_false, Bool.false_eq_true, Bool.not_true, Bool.not_false, ite_true, ite_false, ↓reduceIte, Nat.reduceSub, Nat.reduceAdd, big, Nat.reduceLeDiff, Nat.zero_le, decide_true, decide_false, eq_self, dBool, dAdd, dSub, dMul, dMod, dFdiv, dPow, dNeg, dLt, dLe, dGt, dGe, eqG_int, eqG_str, eqG_bl, xor_t, xor_f, dIsN, dNotN, dTru, dIx, dLen, dAbs, dInt, dStr, dMax2, dMin2, asL, e, hv]
def tripF (n s : Str) (l t : Int) (g : Str) : List (Str × D) := [("name", .str n), ("start", .str s), ("leaves", .int l), ("takes", .int t), ("goal", .str g)]
section
variable {n s g n' s' g' : Str} {l t l' t' : Int} {S : Store} {c c' : Nat}
theorem nm_len {z : Str} (h : isName z = true) : z.length ≤ 1000 := Nat.le_trans (name_ok h).2 (by decide)
theorem e_tinit (ok : TripOk n s l t g) (hc : c = 8 ∨ c = 9) : F_Trip_init [.loc S.length, .str n, .str s, .int l, .int t, .str g] (S ++ [.ins c []]) = .ok .non (S ++ [.ins c (tripF n s l t g)]) := by
  unfold F_Trip_init
  refine (x_run (by rfl)).trans ?_
  have hn := e_is_name n (S ++ [.ins c []]) (nm_len ok.n)
  have hs := e_is_name s (S ++ [.ins c []]) (nm_len ok.s)
  have hg := e_is_name g (S ++ [.ins c []]) (nm_len ok.g)
  have hl := decide_eq_true ok.l
  have ht := decide_eq_true ok.t
  rcases hc with rfl | rfl <;> simp only [ap_f2, ap_cons, ap_cons2, ap_and, ap_or, ap_not, ap_if, ap_andV, ap_andV2, ap_orV, ap_orV2, ap_notV, ap_notV2, ap_ch1, ap_ch2, ap_ch3, ap_ch4, ap_lst, ap_tup, ap_lstM, ap_sl, ap_sl2, ap_ret, ap_drop, ap_set, ap_nx, ap_asg, ap_par, ap_par3, ap_r1, ap_r2, ap_si1, ap_si2, ap_si3, ap_sf1, ap_sf2, ap_for, ap_lcE, x_var, vK_some, x_c, x_f1, x_f2, x_nil, x_cons, x_and, x_or, x_not, x_if, x_andV, x_orV, x_notV, x_chain, x_lst, x_tup, x_lstM, x_sl, x_seq, sqK_nx, sqK_rt, sqK_bk, sqK_ct, x_ret, x_retN, x_drop, x_next, x_brk, x_cnt, x_set, x_asg, x_par, x_par3, x_raise1, x_raise2, x_setI, x_setF, endK_rt, endK_nx, x_for, x_bind, bd_ok, bd_er, bd_bad, bnd_bd, ret_ap, bad_ap, ite_ap, List.map_cons, List.map_nil, List.length_cons, List.length_nil, List.cons_append, List.nil_append, List.replicate, List.getElem?_cons_zero, List.getElem?_cons_succ, List.set_cons_zero, List.set_cons_succ, if_true, if_false, Bool.true_eq_false, Bool.false_eq_true, Bool.not_true, Bool.not_false, ite_true, ite_false, ↓reduceIte, Nat.reduceSub, Nat.reduceAdd, big, Nat.reduceLeDiff, Nat.zero_le, decide_true, decide_false, eq_self, dBool, dAdd, dSub, dMul, dMod, dFdiv, dPow, dNeg, dLt, dLe, dGt, dGe, eqG_int, eqG_str, eqG_bl, xor_t, xor_f, dIsN, dNotN, dTru, dIx, dLen, dAbs, dInt, dStr, dMax2, dMin2, app_get, app_set, putFD, lookF, lookC, str_inj, String.reduceEq, List.mem_cons, List.not_mem_nil, or_false, or_true, true_or, false_or, Nat.reduceEqDiff, and_self, true_and, and_true, Nat.reduceLT, dFld, dCon, asI, D.limF, D.lim, D.limL, Bool.and_true, Bool.true_and, fMeth, fMeth0, methOf, reduceCtorEq, Nat.zero_ne_one, Nat.one_ne_zero, hn, hs, hg, ok.n, ok.s, ok.g, e_is_number, e_is_between, hl, ht, tripF]
theorem limTrip (k : Nat) : D.limF k (tripF n s l t g) = true := by simp [tripF, D.limF, D.lim]
theorem e_run (ok : TripOk n s l t g) (hS : S.all (O.lim S.length) = true) : mkIns 8 F_Run_init [.str n, .str s, .int l, .int t, .str g] S = .ok (.ins 8 (tripF n s l t g)) S := by
  refine mk_ok ?_ (limTrip _) hS
  unfold F_Run_init runSup
  simp only [ap_f2, ap_cons, ap_cons2, ap_and, ap_or, ap_not, ap_if, ap_andV, ap_andV2, ap_orV, ap_orV2, ap_notV, ap_notV2, ap_ch1, ap_ch2, ap_ch3, ap_ch4, ap_lst, ap_tup, ap_lstM, ap_sl, ap_sl2, ap_ret, ap_drop, ap_set, ap_nx, ap_asg, ap_par, ap_par3, ap_r1, ap_r2, ap_si1, ap_si2, ap_si3, ap_sf1, ap_sf2, ap_for, ap_lcE, x_var, vK_some, x_c, x_f1, x_f2, x_nil, x_cons, x_and, x_or, x_not, x_if, x_andV, x_orV, x_notV, x_chain, x_lst, x_tup, x_lstM, x_sl, x_seq, sqK_nx, sqK_rt, sqK_bk, sqK_ct, x_ret, x_retN, x_drop, x_next, x_brk, x_cnt, x_set, x_asg, x_par, x_par3, x_raise1, x_raise2, x_setI, x_setF, endK_rt, endK_nx, x_for, x_bind, bd_ok, bd_er, bd_bad, bnd_bd, ret_ap, bad_ap, ite_ap, List.map_cons, List.map_nil, List.length_cons, List.length_nil, List.cons_append, List.nil_append, List.replicate, List.getElem?_cons_zero, List.getElem?_cons_succ, List.set_cons_zero, List.set_cons_succ, if_true, if_false, Bool.true_eq_false, Bool.false_eq_true, Bool.not_true, Bool.not_false, ite_true, ite_false, ↓reduceIte, Nat.reduceSub, Nat.reduceAdd, big, Nat.reduceLeDiff, Nat.zero_le, decide_true, decide_false, eq_self, dBool, dAdd, dSub, dMul, dMod, dFdiv, dPow, dNeg, dLt, dLe, dGt, dGe, eqG_int, eqG_str, eqG_bl, xor_t, xor_f, dIsN, dNotN, dTru, dIx, dLen, dAbs, dInt, dStr, dMax2, dMin2, app_get, app_set, putFD, lookF, lookC, str_inj, String.reduceEq, List.mem_cons, List.not_mem_nil, or_false, or_true, true_or, false_or, Nat.reduceEqDiff, and_self, true_and, and_true, Nat.reduceLT, dFld, dCon, asI, D.limF, D.lim, D.limL, Bool.and_true, Bool.true_and, fMeth, fMeth0, methOf, reduceCtorEq, Nat.zero_ne_one, Nat.one_ne_zero, e_tinit ok (.inl rfl)]
theorem e_stay (ok : TripOk n s l t s) (hS : S.all (O.lim S.length) = true) : mkIns 9 F_Stay_init [.str n, .str s, .int l, .int t] S = .ok (.ins 9 (tripF n s l t s)) S := by
  refine mk_ok ?_ (limTrip _) hS
  unfold F_Stay_init runSup
  simp only [ap_f2, ap_cons, ap_cons2, ap_and, ap_or, ap_not, ap_if, ap_andV, ap_andV2, ap_orV, ap_orV2, ap_notV, ap_notV2, ap_ch1, ap_ch2, ap_ch3, ap_ch4, ap_lst, ap_tup, ap_lstM, ap_sl, ap_sl2, ap_ret, ap_drop, ap_set, ap_nx, ap_asg, ap_par, ap_par3, ap_r1, ap_r2, ap_si1, ap_si2, ap_si3, ap_sf1, ap_sf2, ap_for, ap_lcE, x_var, vK_some, x_c, x_f1, x_f2, x_nil, x_cons, x_and, x_or, x_not, x_if, x_andV, x_orV, x_notV, x_chain, x_lst, x_tup, x_lstM, x_sl, x_seq, sqK_nx, sqK_rt, sqK_bk, sqK_ct, x_ret, x_retN, x_drop, x_next, x_brk, x_cnt, x_set, x_asg, x_par, x_par3, x_raise1, x_raise2, x_setI, x_setF, endK_rt, endK_nx, x_for, x_bind, bd_ok, bd_er, bd_bad, bnd_bd, ret_ap, bad_ap, ite_ap, List.map_cons, List.map_nil, List.length_cons, List.length_nil, List.cons_append, List.nil_append, List.replicate, List.getElem?_cons_zero, List.getElem?_cons_succ, List.set_cons_zero, List.set_cons_succ, if_true, if_false, Bool.true_eq_false, Bool.false_eq_true, Bool.not_true, Bool.not_false, ite_true, ite_false, ↓reduceIte, Nat.reduceSub, Nat.reduceAdd, big, Nat.reduceLeDiff, Nat.zero_le, decide_true, decide_false, eq_self, dBool, dAdd, dSub, dMul, dMod, dFdiv, dPow, dNeg, dLt, dLe, dGt, dGe, eqG_int, eqG_str, eqG_bl, xor_t, xor_f, dIsN, dNotN, dTru, dIx, dLen, dAbs, dInt, dStr, dMax2, dMin2, app_get, app_set, putFD, lookF, lookC, str_inj, String.reduceEq, List.mem_cons, List.not_mem_nil, or_false, or_true, true_or, false_or, Nat.reduceEqDiff, and_self, true_and, and_true, Nat.reduceLT, dFld, dCon, asI, D.limF, D.lim, D.limL, Bool.and_true, Bool.true_and, fMeth, fMeth0, methOf, reduceCtorEq, Nat.zero_ne_one, Nat.one_ne_zero, e_tinit ok (.inr rfl)]
theorem fmt_str {z : Str} (h : z.length ≤ 1000) : dFmt (.str z) S = .ok (.str z) S := if_pos_ap (Nat.le_trans h (by decide))
theorem fmt_int {i : Int} (h : i.natAbs ≤ 1000000000000) : dFmt (.int i) S = .ok (.str (toString i)) S := if_pos_ap (num_log h)
theorem e_tstr (ok : TripOk n s l t g) : F_Trip_str [.ins 9 (tripF n s l t g)] S = .ok (.str (Txt.join " " ["stay", n, s, toString l, toString t])) S := by
  unfold F_Trip_str
  refine run_ret rfl ?_
  have hn := (name_ok ok.n).2
  have hs := (name_ok ok.s).2
  have hg := (name_ok ok.g).2
  have hl := num_len (i := l) (by have := ok.l; omega)
  have ht := num_len (i := t) (by have := ok.t; omega)
  have f1' := fmt_int (S := S) (i := l) (by have := ok.l; omega)
  have f2' := fmt_int (S := S) (i := t) (by have := ok.t; omega)
  have f3 := fmt_str (S := S) (nm_len ok.n)
  have f4 := fmt_str (S := S) (nm_len ok.s)
  have f6 := fmt_str (S := S) (nm_len ok.g)
  have f5 := fmt_str (S := S) (z := "stay") (by decide)
  rw [join5]
  refine js_go (y := "stay") (Nat.zero_le 0 : Str.empty.length ≤ 0) (by simp only [ap_f2, ap_cons, ap_cons2, ap_and, ap_or, ap_not, ap_if, ap_andV, ap_andV2, ap_orV, ap_orV2, ap_notV, ap_notV2, ap_ch1, ap_ch2, ap_ch3, ap_ch4, ap_lst, ap_tup, ap_lstM, ap_sl, ap_sl2, ap_ret, ap_drop, ap_set, ap_nx, ap_asg, ap_par, ap_par3, ap_r1, ap_r2, ap_si1, ap_si2, ap_si3, ap_sf1, ap_sf2, ap_for, ap_lcE, x_var, vK_some, x_c, x_f1, x_f2, x_nil, x_cons, x_and, x_or, x_not, x_if, x_andV, x_orV, x_notV, x_chain, x_lst, x_tup, x_lstM, x_sl, x_seq, sqK_nx, sqK_rt, sqK_bk, sqK_ct, x_ret, x_retN, x_drop, x_next, x_brk, x_cnt, x_set, x_asg, x_par, x_par3, x_raise1, x_raise2, x_setI, x_setF, endK_rt, endK_nx, x_for, x_bind, bd_ok, bd_er, bd_bad, bnd_bd, ret_ap, bad_ap, ite_ap, List.map_cons, List.map_nil, List.length_cons, List.length_nil, List.cons_append, List.nil_append, List.replicate, List.getElem?_cons_zero, List.getElem?_cons_succ, List.set_cons_zero, List.set_cons_succ, if_true, if_false, Bool.true_eq_false, Bool.false_eq_true, Bool.not_true, Bool.not_false, ite_true, ite_false, ↓reduceIte, Nat.reduceSub, Nat.reduceAdd, big, Nat.reduceLeDiff, Nat.zero_le, decide_true, decide_false, eq_self, app_get, app_set, putFD, lookF, lookC, str_inj, String.reduceEq, List.mem_cons, List.not_mem_nil, or_false, or_true, true_or, false_or, Nat.reduceEqDiff, and_self, true_and, and_true, Nat.reduceLT, dFld, dCon, asI, D.limF, D.lim, D.limL, Bool.and_true, Bool.true_and, fMeth, fMeth0, methOf, reduceCtorEq, Nat.zero_ne_one, Nat.one_ne_zero, tripF, f5]) (show (Str.ofString "stay").length ≤ 5 by decide) (by decide) fun a0 => ?_
  refine js_go (y := " ") a0 rfl (show (Str.ofString " ").length ≤ 1 by decide) (by decide) fun a1 => ?_
  refine js_go (y := n) a1 (by simp only [ap_f2, ap_cons, ap_cons2, ap_and, ap_or, ap_not, ap_if, ap_andV, ap_andV2, ap_orV, ap_orV2, ap_notV, ap_notV2, ap_ch1, ap_ch2, ap_ch3, ap_ch4, ap_lst, ap_tup, ap_lstM, ap_sl, ap_sl2, ap_ret, ap_drop, ap_set, ap_nx, ap_asg, ap_par, ap_par3, ap_r1, ap_r2, ap_si1, ap_si2, ap_si3, ap_sf1, ap_sf2, ap_for, ap_lcE, x_var, vK_some, x_c, x_f1, x_f2, x_nil, x_cons, x_and, x_or, x_not, x_if, x_andV, x_orV, x_notV, x_chain, x_lst, x_tup, x_lstM, x_sl, x_seq, sqK_nx, sqK_rt, sqK_bk, sqK_ct, x_ret, x_retN, x_drop, x_next, x_brk, x_cnt, x_set, x_asg, x_par, x_par3, x_raise1, x_raise2, x_setI, x_setF, endK_rt, endK_nx, x_for, x_bind, bd_ok, bd_er, bd_bad, bnd_bd, ret_ap, bad_ap, ite_ap, List.map_cons, List.map_nil, List.length_cons, List.length_nil, List.cons_append, List.nil_append, List.replicate, List.getElem?_cons_zero, List.getElem?_cons_succ, List.set_cons_zero, List.set_cons_succ, if_true, if_false, Bool.true_eq_false, Bool.false_eq_true, Bool.not_true, Bool.not_false, ite_true, ite_false, ↓reduceIte, Nat.reduceSub, Nat.reduceAdd, big, Nat.reduceLeDiff, Nat.zero_le, decide_true, decide_false, eq_self, app_get, app_set, putFD, lookF, lookC, str_inj, String.reduceEq, List.mem_cons, List.not_mem_nil, or_false, or_true, true_or, false_or, Nat.reduceEqDiff, and_self, true_and, and_true, Nat.reduceLT, dFld, dCon, asI, D.limF, D.lim, D.limL, Bool.and_true, Bool.true_and, fMeth, fMeth0, methOf, reduceCtorEq, Nat.zero_ne_one, Nat.one_ne_zero, tripF, f3]) hn (by decide) fun a2 => ?_
  refine js_go (y := " ") a2 rfl (show (Str.ofString " ").length ≤ 1 by decide) (by decide) fun a3 => ?_
  refine js_go (y := s) a3 (by simp only [ap_f2, ap_cons, ap_cons2, ap_and, ap_or, ap_not, ap_if, ap_andV, ap_andV2, ap_orV, ap_orV2, ap_notV, ap_notV2, ap_ch1, ap_ch2, ap_ch3, ap_ch4, ap_lst, ap_tup, ap_lstM, ap_sl, ap_sl2, ap_ret, ap_drop, ap_set, ap_nx, ap_asg, ap_par, ap_par3, ap_r1, ap_r2, ap_si1, ap_si2, ap_si3, ap_sf1, ap_sf2, ap_for, ap_lcE, x_var, vK_some, x_c, x_f1, x_f2, x_nil, x_cons, x_and, x_or, x_not, x_if, x_andV, x_orV, x_notV, x_chain, x_lst, x_tup, x_lstM, x_sl, x_seq, sqK_nx, sqK_rt, sqK_bk, sqK_ct, x_ret, x_retN, x_drop, x_next, x_brk, x_cnt, x_set, x_asg, x_par, x_par3, x_raise1, x_raise2, x_setI, x_setF, endK_rt, endK_nx, x_for, x_bind, bd_ok, bd_er, bd_bad, bnd_bd, ret_ap, bad_ap, ite_ap, List.map_cons, List.map_nil, List.length_cons, List.length_nil, List.cons_append, List.nil_append, List.replicate, List.getElem?_cons_zero, List.getElem?_cons_succ, List.set_cons_zero, List.set_cons_succ, if_true, if_false, Bool.true_eq_false, Bool.false_eq_true, Bool.not_true, Bool.not_false, ite_true, ite_false, ↓reduceIte, Nat.reduceSub, Nat.reduceAdd, big, Nat.reduceLeDiff, Nat.zero_le, decide_true, decide_false, eq_self, app_get, app_set, putFD, lookF, lookC, str_inj, String.reduceEq, List.mem_cons, List.not_mem_nil, or_false, or_true, true_or, false_or, Nat.reduceEqDiff, and_self, true_and, and_true, Nat.reduceLT, dFld, dCon, asI, D.limF, D.lim, D.limL, Bool.and_true, Bool.true_and, fMeth, fMeth0, methOf, reduceCtorEq, Nat.zero_ne_one, Nat.one_ne_zero, tripF, f4]) hs (by decide) fun a4 => ?_
  refine js_go (y := " ") a4 rfl (show (Str.ofString " ").length ≤ 1 by decide) (by decide) fun a5 => ?_
  refine js_go (y := (toString l)) a5 (by simp only [ap_f2, ap_cons, ap_cons2, ap_and, ap_or, ap_not, ap_if, ap_andV, ap_andV2, ap_orV, ap_orV2, ap_notV, ap_notV2, ap_ch1, ap_ch2, ap_ch3, ap_ch4, ap_lst, ap_tup, ap_lstM, ap_sl, ap_sl2, ap_ret, ap_drop, ap_set, ap_nx, ap_asg, ap_par, ap_par3, ap_r1, ap_r2, ap_si1, ap_si2, ap_si3, ap_sf1, ap_sf2, ap_for, ap_lcE, x_var, vK_some, x_c, x_f1, x_f2, x_nil, x_cons, x_and, x_or, x_not, x_if, x_andV, x_orV, x_notV, x_chain, x_lst, x_tup, x_lstM, x_sl, x_seq, sqK_nx, sqK_rt, sqK_bk, sqK_ct, x_ret, x_retN, x_drop, x_next, x_brk, x_cnt, x_set, x_asg, x_par, x_par3, x_raise1, x_raise2, x_setI, x_setF, endK_rt, endK_nx, x_for, x_bind, bd_ok, bd_er, bd_bad, bnd_bd, ret_ap, bad_ap, ite_ap, List.map_cons, List.map_nil, List.length_cons, List.length_nil, List.cons_append, List.nil_append, List.replicate, List.getElem?_cons_zero, List.getElem?_cons_succ, List.set_cons_zero, List.set_cons_succ, if_true, if_false, Bool.true_eq_false, Bool.false_eq_true, Bool.not_true, Bool.not_false, ite_true, ite_false, ↓reduceIte, Nat.reduceSub, Nat.reduceAdd, big, Nat.reduceLeDiff, Nat.zero_le, decide_true, decide_false, eq_self, app_get, app_set, putFD, lookF, lookC, str_inj, String.reduceEq, List.mem_cons, List.not_mem_nil, or_false, or_true, true_or, false_or, Nat.reduceEqDiff, and_self, true_and, and_true, Nat.reduceLT, dFld, dCon, asI, D.limF, D.lim, D.limL, Bool.and_true, Bool.true_and, fMeth, fMeth0, methOf, reduceCtorEq, Nat.zero_ne_one, Nat.one_ne_zero, tripF, f1']) hl (by decide) fun a6 => ?_
  refine js_go (y := " ") a6 rfl (show (Str.ofString " ").length ≤ 1 by decide) (by decide) fun a7 => ?_
  refine js_go (y := (toString t)) a7 (by simp only [ap_f2, ap_cons, ap_cons2, ap_and, ap_or, ap_not, ap_if, ap_andV, ap_andV2, ap_orV, ap_orV2, ap_notV, ap_notV2, ap_ch1, ap_ch2, ap_ch3, ap_ch4, ap_lst, ap_tup, ap_lstM, ap_sl, ap_sl2, ap_ret, ap_drop, ap_set, ap_nx, ap_asg, ap_par, ap_par3, ap_r1, ap_r2, ap_si1, ap_si2, ap_si3, ap_sf1, ap_sf2, ap_for, ap_lcE, x_var, vK_some, x_c, x_f1, x_f2, x_nil, x_cons, x_and, x_or, x_not, x_if, x_andV, x_orV, x_notV, x_chain, x_lst, x_tup, x_lstM, x_sl, x_seq, sqK_nx, sqK_rt, sqK_bk, sqK_ct, x_ret, x_retN, x_drop, x_next, x_brk, x_cnt, x_set, x_asg, x_par, x_par3, x_raise1, x_raise2, x_setI, x_setF, endK_rt, endK_nx, x_for, x_bind, bd_ok, bd_er, bd_bad, bnd_bd, ret_ap, bad_ap, ite_ap, List.map_cons, List.map_nil, List.length_cons, List.length_nil, List.cons_append, List.nil_append, List.replicate, List.getElem?_cons_zero, List.getElem?_cons_succ, List.set_cons_zero, List.set_cons_succ, if_true, if_false, Bool.true_eq_false, Bool.false_eq_true, Bool.not_true, Bool.not_false, ite_true, ite_false, ↓reduceIte, Nat.reduceSub, Nat.reduceAdd, big, Nat.reduceLeDiff, Nat.zero_le, decide_true, decide_false, eq_self, app_get, app_set, putFD, lookF, lookC, str_inj, String.reduceEq, List.mem_cons, List.not_mem_nil, or_false, or_true, true_or, false_or, Nat.reduceEqDiff, and_self, true_and, and_true, Nat.reduceLT, dFld, dCon, asI, D.limF, D.lim, D.limL, Bool.and_true, Bool.true_and, fMeth, fMeth0, methOf, reduceCtorEq, Nat.zero_ne_one, Nat.one_ne_zero, tripF, f2']) ht (by decide) fun a8 => ?_
  rfl
theorem e_rstr (ok : TripOk n s l t g) : F_Run_str [.ins 8 (tripF n s l t g)] S = .ok (.str (Txt.join " " ["run", n, s, toString l, toString t, g])) S := by
  unfold F_Run_str
  refine run_ret rfl ?_
  have hn := (name_ok ok.n).2
  have hs := (name_ok ok.s).2
  have hg := (name_ok ok.g).2
  have hl := num_len (i := l) (by have := ok.l; omega)
  have ht := num_len (i := t) (by have := ok.t; omega)
  have f1' := fmt_int (S := S) (i := l) (by have := ok.l; omega)
  have f2' := fmt_int (S := S) (i := t) (by have := ok.t; omega)
  have f3 := fmt_str (S := S) (nm_len ok.n)
  have f4 := fmt_str (S := S) (nm_len ok.s)
  have f6 := fmt_str (S := S) (nm_len ok.g)
  have f5 := fmt_str (S := S) (z := "run") (by decide)
  rw [join6]
  refine js_go (y := "run") (Nat.zero_le 0 : Str.empty.length ≤ 0) (by simp only [ap_f2, ap_cons, ap_cons2, ap_and, ap_or, ap_not, ap_if, ap_andV, ap_andV2, ap_orV, ap_orV2, ap_notV, ap_notV2, ap_ch1, ap_ch2, ap_ch3, ap_ch4, ap_lst, ap_tup, ap_lstM, ap_sl, ap_sl2, ap_ret, ap_drop, ap_set, ap_nx, ap_asg, ap_par, ap_par3, ap_r1, ap_r2, ap_si1, ap_si2, ap_si3, ap_sf1, ap_sf2, ap_for, ap_lcE, x_var, vK_some, x_c, x_f1, x_f2, x_nil, x_cons, x_and, x_or, x_not, x_if, x_andV, x_orV, x_notV, x_chain, x_lst, x_tup, x_lstM, x_sl, x_seq, sqK_nx, sqK_rt, sqK_bk, sqK_ct, x_ret, x_retN, x_drop, x_next, x_brk, x_cnt, x_set, x_asg, x_par, x_par3, x_raise1, x_raise2, x_setI, x_setF, endK_rt, endK_nx, x_for, x_bind, bd_ok, bd_er, bd_bad, bnd_bd, ret_ap, bad_ap, ite_ap, List.map_cons, List.map_nil, List.length_cons, List.length_nil, List.cons_append, List.nil_append, List.replicate, List.getElem?_cons_zero, List.getElem?_cons_succ, List.set_cons_zero, List.set_cons_succ, if_true, if_false, Bool.true_eq_false, Bool.false_eq_true, Bool.not_true, Bool.not_false, ite_true, ite_false, ↓reduceIte, Nat.reduceSub, Nat.reduceAdd, big, Nat.reduceLeDiff, Nat.zero_le, decide_true, decide_false, eq_self, app_get, app_set, putFD, lookF, lookC, str_inj, String.reduceEq, List.mem_cons, List.not_mem_nil, or_false, or_true, true_or, false_or, Nat.reduceEqDiff, and_self, true_and, and_true, Nat.reduceLT, dFld, dCon, asI, D.limF, D.lim, D.limL, Bool.and_true, Bool.true_and, fMeth, fMeth0, methOf, reduceCtorEq, Nat.zero_ne_one, Nat.one_ne_zero, tripF, f5]) (show (Str.ofString "run").length ≤ 5 by decide) (by decide) fun a0 => ?_
  refine js_go (y := " ") a0 rfl (show (Str.ofString " ").length ≤ 1 by decide) (by decide) fun a1 => ?_
  refine js_go (y := n) a1 (by simp only [ap_f2, ap_cons, ap_cons2, ap_and, ap_or, ap_not, ap_if, ap_andV, ap_andV2, ap_orV, ap_orV2, ap_notV, ap_notV2, ap_ch1, ap_ch2, ap_ch3, ap_ch4, ap_lst, ap_tup, ap_lstM, ap_sl, ap_sl2, ap_ret, ap_drop, ap_set, ap_nx, ap_asg, ap_par, ap_par3, ap_r1, ap_r2, ap_si1, ap_si2, ap_si3, ap_sf1, ap_sf2, ap_for, ap_lcE, x_var, vK_some, x_c, x_f1, x_f2, x_nil, x_cons, x_and, x_or, x_not, x_if, x_andV, x_orV, x_notV, x_chain, x_lst, x_tup, x_lstM, x_sl, x_seq, sqK_nx, sqK_rt, sqK_bk, sqK_ct, x_ret, x_retN, x_drop, x_next, x_brk, x_cnt, x_set, x_asg, x_par, x_par3, x_raise1, x_raise2, x_setI, x_setF, endK_rt, endK_nx, x_for, x_bind, bd_ok, bd_er, bd_bad, bnd_bd, ret_ap, bad_ap, ite_ap, List.map_cons, List.map_nil, List.length_cons, List.length_nil, List.cons_append, List.nil_append, List.replicate, List.getElem?_cons_zero, List.getElem?_cons_succ, List.set_cons_zero, List.set_cons_succ, if_true, if_false, Bool.true_eq_false, Bool.false_eq_true, Bool.not_true, Bool.not_false, ite_true, ite_false, ↓reduceIte, Nat.reduceSub, Nat.reduceAdd, big, Nat.reduceLeDiff, Nat.zero_le, decide_true, decide_false, eq_self, app_get, app_set, putFD, lookF, lookC, str_inj, String.reduceEq, List.mem_cons, List.not_mem_nil, or_false, or_true, true_or, false_or, Nat.reduceEqDiff, and_self, true_and, and_true, Nat.reduceLT, dFld, dCon, asI, D.limF, D.lim, D.limL, Bool.and_true, Bool.true_and, fMeth, fMeth0, methOf, reduceCtorEq, Nat.zero_ne_one, Nat.one_ne_zero, tripF, f3]) hn (by decide) fun a2 => ?_
  refine js_go (y := " ") a2 rfl (show (Str.ofString " ").length ≤ 1 by decide) (by decide) fun a3 => ?_
  refine js_go (y := s) a3 (by simp only [ap_f2, ap_cons, ap_cons2, ap_and, ap_or, ap_not, ap_if, ap_andV, ap_andV2, ap_orV, ap_orV2, ap_notV, ap_notV2, ap_ch1, ap_ch2, ap_ch3, ap_ch4, ap_lst, ap_tup, ap_lstM, ap_sl, ap_sl2, ap_ret, ap_drop, ap_set, ap_nx, ap_asg, ap_par, ap_par3, ap_r1, ap_r2, ap_si1, ap_si2, ap_si3, ap_sf1, ap_sf2, ap_for, ap_lcE, x_var, vK_some, x_c, x_f1, x_f2, x_nil, x_cons, x_and, x_or, x_not, x_if, x_andV, x_orV, x_notV, x_chain, x_lst, x_tup, x_lstM, x_sl, x_seq, sqK_nx, sqK_rt, sqK_bk, sqK_ct, x_ret, x_retN, x_drop, x_next, x_brk, x_cnt, x_set, x_asg, x_par, x_par3, x_raise1, x_raise2, x_setI, x_setF, endK_rt, endK_nx, x_for, x_bind, bd_ok, bd_er, bd_bad, bnd_bd, ret_ap, bad_ap, ite_ap, List.map_cons, List.map_nil, List.length_cons, List.length_nil, List.cons_append, List.nil_append, List.replicate, List.getElem?_cons_zero, List.getElem?_cons_succ, List.set_cons_zero, List.set_cons_succ, if_true, if_false, Bool.true_eq_false, Bool.false_eq_true, Bool.not_true, Bool.not_false, ite_true, ite_false, ↓reduceIte, Nat.reduceSub, Nat.reduceAdd, big, Nat.reduceLeDiff, Nat.zero_le, decide_true, decide_false, eq_self, app_get, app_set, putFD, lookF, lookC, str_inj, String.reduceEq, List.mem_cons, List.not_mem_nil, or_false, or_true, true_or, false_or, Nat.reduceEqDiff, and_self, true_and, and_true, Nat.reduceLT, dFld, dCon, asI, D.limF, D.lim, D.limL, Bool.and_true, Bool.true_and, fMeth, fMeth0, methOf, reduceCtorEq, Nat.zero_ne_one, Nat.one_ne_zero, tripF, f4]) hs (by decide) fun a4 => ?_
  refine js_go (y := " ") a4 rfl (show (Str.ofString " ").length ≤ 1 by decide) (by decide) fun a5 => ?_
  refine js_go (y := (toString l)) a5 (by simp only [ap_f2, ap_cons, ap_cons2, ap_and, ap_or, ap_not, ap_if, ap_andV, ap_andV2, ap_orV, ap_orV2, ap_notV, ap_notV2, ap_ch1, ap_ch2, ap_ch3, ap_ch4, ap_lst, ap_tup, ap_lstM, ap_sl, ap_sl2, ap_ret, ap_drop, ap_set, ap_nx, ap_asg, ap_par, ap_par3, ap_r1, ap_r2, ap_si1, ap_si2, ap_si3, ap_sf1, ap_sf2, ap_for, ap_lcE, x_var, vK_some, x_c, x_f1, x_f2, x_nil, x_cons, x_and, x_or, x_not, x_if, x_andV, x_orV, x_notV, x_chain, x_lst, x_tup, x_lstM, x_sl, x_seq, sqK_nx, sqK_rt, sqK_bk, sqK_ct, x_ret, x_retN, x_drop, x_next, x_brk, x_cnt, x_set, x_asg, x_par, x_par3, x_raise1, x_raise2, x_setI, x_setF, endK_rt, endK_nx, x_for, x_bind, bd_ok, bd_er, bd_bad, bnd_bd, ret_ap, bad_ap, ite_ap, List.map_cons, List.map_nil, List.length_cons, List.length_nil, List.cons_append, List.nil_append, List.replicate, List.getElem?_cons_zero, List.getElem?_cons_succ, List.set_cons_zero, List.set_cons_succ, if_true, if_false, Bool.true_eq_false, Bool.false_eq_true, Bool.not_true, Bool.not_false, ite_true, ite_false, ↓reduceIte, Nat.reduceSub, Nat.reduceAdd, big, Nat.reduceLeDiff, Nat.zero_le, decide_true, decide_false, eq_self, app_get, app_set, putFD, lookF, lookC, str_inj, String.reduceEq, List.mem_cons, List.not_mem_nil, or_false, or_true, true_or, false_or, Nat.reduceEqDiff, and_self, true_and, and_true, Nat.reduceLT, dFld, dCon, asI, D.limF, D.lim, D.limL, Bool.and_true, Bool.true_and, fMeth, fMeth0, methOf, reduceCtorEq, Nat.zero_ne_one, Nat.one_ne_zero, tripF, f1']) hl (by decide) fun a6 => ?_
  refine js_go (y := " ") a6 rfl (show (Str.ofString " ").length ≤ 1 by decide) (by decide) fun a7 => ?_
  refine js_go (y := (toString t)) a7 (by simp only [ap_f2, ap_cons, ap_cons2, ap_and, ap_or, ap_not, ap_if, ap_andV, ap_andV2, ap_orV, ap_orV2, ap_notV, ap_notV2, ap_ch1, ap_ch2, ap_ch3, ap_ch4, ap_lst, ap_tup, ap_lstM, ap_sl, ap_sl2, ap_ret, ap_drop, ap_set, ap_nx, ap_asg, ap_par, ap_par3, ap_r1, ap_r2, ap_si1, ap_si2, ap_si3, ap_sf1, ap_sf2, ap_for, ap_lcE, x_var, vK_some, x_c, x_f1, x_f2, x_nil, x_cons, x_and, x_or, x_not, x_if, x_andV, x_orV, x_notV, x_chain, x_lst, x_tup, x_lstM, x_sl, x_seq, sqK_nx, sqK_rt, sqK_bk, sqK_ct, x_ret, x_retN, x_drop, x_next, x_brk, x_cnt, x_set, x_asg, x_par, x_par3, x_raise1, x_raise2, x_setI, x_setF, endK_rt, endK_nx, x_for, x_bind, bd_ok, bd_er, bd_bad, bnd_bd, ret_ap, bad_ap, ite_ap, List.map_cons, List.map_nil, List.length_cons, List.length_nil, List.cons_append, List.nil_append, List.replicate, List.getElem?_cons_zero, List.getElem?_cons_succ, List.set_cons_zero, List.set_cons_succ, if_true, if_false, Bool.true_eq_false, Bool.false_eq_true, Bool.not_true, Bool.not_false, ite_true, ite_false, ↓reduceIte, Nat.reduceSub, Nat.reduceAdd, big, Nat.reduceLeDiff, Nat.zero_le, decide_true, decide_false, eq_self, app_get, app_set, putFD, lookF, lookC, str_inj, String.reduceEq, List.mem_cons, List.not_mem_nil, or_false, or_true, true_or, false_or, Nat.reduceEqDiff, and_self, true_and, and_true, Nat.reduceLT, dFld, dCon, asI, D.limF, D.lim, D.limL, Bool.and_true, Bool.true_and, fMeth, fMeth0, methOf, reduceCtorEq, Nat.zero_ne_one, Nat.one_ne_zero, tripF, f2']) ht (by decide) fun a8 => ?_
  refine js_go (y := " ") a8 rfl (show (Str.ofString " ").length ≤ 1 by decide) (by decide) fun a9 => ?_
  refine js_go (y := g) a9 (by simp only [ap_f2, ap_cons, ap_cons2, ap_and, ap_or, ap_not, ap_if, ap_andV, ap_andV2, ap_orV, ap_orV2, ap_notV, ap_notV2, ap_ch1, ap_ch2, ap_ch3, ap_ch4, ap_lst, ap_tup, ap_lstM, ap_sl, ap_sl2, ap_ret, ap_drop, ap_set, ap_nx, ap_asg, ap_par, ap_par3, ap_r1, ap_r2, ap_si1, ap_si2, ap_si3, ap_sf1, ap_sf2, ap_for, ap_lcE, x_var, vK_some, x_c, x_f1, x_f2, x_nil, x_cons, x_and, x_or, x_not, x_if, x_andV, x_orV, x_notV, x_chain, x_lst, x_tup, x_lstM, x_sl, x_seq, sqK_nx, sqK_rt, sqK_bk, sqK_ct, x_ret, x_retN, x_drop, x_next, x_brk, x_cnt, x_set, x_asg, x_par, x_par3, x_raise1, x_raise2, x_setI, x_setF, endK_rt, endK_nx, x_for, x_bind, bd_ok, bd_er, bd_bad, bnd_bd, ret_ap, bad_ap, ite_ap, List.map_cons, List.map_nil, List.length_cons, List.length_nil, List.cons_append, List.nil_append, List.replicate, List.getElem?_cons_zero, List.getElem?_cons_succ, List.set_cons_zero, List.set_cons_succ, if_true, if_false, Bool.true_eq_false, Bool.false_eq_true, Bool.not_true, Bool.not_false, ite_true, ite_false, ↓reduceIte, Nat.reduceSub, Nat.reduceAdd, big, Nat.reduceLeDiff, Nat.zero_le, decide_true, decide_false, eq_self, app_get, app_set, putFD, lookF, lookC, str_inj, String.reduceEq, List.mem_cons, List.not_mem_nil, or_false, or_true, true_or, false_or, Nat.reduceEqDiff, and_self, true_and, and_true, Nat.reduceLT, dFld, dCon, asI, D.limF, D.lim, D.limL, Bool.and_true, Bool.true_and, fMeth, fMeth0, methOf, reduceCtorEq, Nat.zero_ne_one, Nat.one_ne_zero, tripF, f6]) hg (by decide) fun a10 => ?_
  rfl
def wordOf (c : Nat) : Str := if c = 8 then "run" else "stay"
theorem eqG_trip (ok : TripOk n s l t g) (ok' : TripOk n' s' l' t' g') : dEqG false (.tup [.str s, .int l, .int t, .str g]) (.tup [.str s', .int l', .int t', .str g']) S = .ok (.bl (decide (s = s' ∧ l = l' ∧ t = t' ∧ g = g'))) S := by
  rw [eqG_tup (ps := [.str s, .int l, .int t, .str g]) (qs := [.str s', .int l', .int t', .str g']) (by simp [toPyL, toPy]) (by simp [toPyL, toPy]) (shaped_trip (name_ok ok.s).1 (name_ok ok.g).1) (shaped_trip (name_ok ok'.s).1 (name_ok ok'.g).1), eqv_trip, xor_f]
theorem e_teq (ok : TripOk n s l t g) (ok' : TripOk n' s' l' t' g') (hc : c = 8 ∨ c = 9) (hc' : c' = 8 ∨ c' = 9) : F_Trip_eq [.ins c (tripF n s l t g), .ins c' (tripF n' s' l' t' g')] S = .ok (.bl (tripB (wordOf c) (wordOf c') n n' s s' g g' l l' t t')) S := by
  unfold F_Trip_eq
  refine (x_run (by rfl)).trans ?_
  by_cases hn : n = n'
  · rcases hc with rfl | rfl <;> rcases hc' with rfl | rfl <;> simp [ap_f2, ap_cons, ap_cons2, ap_and, ap_or, ap_not, ap_if, ap_andV, ap_andV2, ap_orV, ap_orV2, ap_notV, ap_notV2, ap_ch1, ap_ch2, ap_ch3, ap_ch4, ap_lst, ap_tup, ap_lstM, ap_sl, ap_sl2, ap_ret, ap_drop, ap_set, ap_nx, ap_asg, ap_par, ap_par3, ap_r1, ap_r2, ap_si1, ap_si2, ap_si3, ap_sf1, ap_sf2, ap_for, ap_lcE, x_var, vK_some, x_c, x_f1, x_f2, x_nil, x_cons, x_and, x_or, x_not, x_if, x_andV, x_orV, x_notV, x_chain, x_lst, x_tup, x_lstM, x_sl, x_seq, sqK_nx, sqK_rt, sqK_bk, sqK_ct, x_ret, x_retN, x_drop, x_next, x_brk, x_cnt, x_set, x_asg, x_par, x_par3, x_raise1, x_raise2, x_setI, x_setF, endK_rt, endK_nx, x_for, x_bind, bd_ok, bd_er, bd_bad, bnd_bd, ret_ap, bad_ap, ite_ap, List.map_cons, List.map_nil, List.length_cons, List.length_nil, List.cons_append, List.nil_append, List.replicate, List.getElem?_cons_zero, List.getElem?_cons_succ, List.set_cons_zero, List.set_cons_succ, if_true, if_false, Bool.true_eq_false, Bool.false_eq_true, Bool.not_true, Bool.not_false, ite_true, ite_false, ↓reduceIte, Nat.reduceSub, Nat.reduceAdd, big, Nat.reduceLeDiff, Nat.zero_le, decide_true, decide_false, eq_self, dBool, dAdd, dSub, dMul, dMod, dFdiv, dPow, dNeg, dLt, dLe, dGt, dGe, eqG_int, eqG_str, eqG_bl, xor_t, xor_f, dIsN, dNotN, dTru, dIx, dLen, dAbs, dInt, dStr, dMax2, dMin2, app_get, app_set, putFD, lookF, lookC, str_inj, String.reduceEq, List.mem_cons, List.not_mem_nil, or_false, or_true, true_or, false_or, Nat.reduceEqDiff, and_self, true_and, and_true, Nat.reduceLT, dFld, dCon, asI, D.limF, D.lim, D.limL, Bool.and_true, Bool.true_and, fMeth, fMeth0, methOf, reduceCtorEq, Nat.zero_ne_one, Nat.one_ne_zero, kt0, kt1, kt2, kt3, kt4, kt5, kt6, kt7, kt8, kt9, kt10, kt11, kt12, kt13, kt14, kt15, kt16, kt17, kt18, kt19, kt20, kt21, kt22, kt23, kt24, kt25, kt26, kt27, kt28, kt29, kt30, kt31, kt32, kt33, kt34, kt35, kt36, kt37, kt38, kt39, kt40, kt41, kt42, kt43, kt44, kt45, kt46, kt47, kt48, kt49, kt50, kt51, kt52, kt53, kt54, kt55, kt56, kt57, kt58, kt59, kt60, kt61, kt62, kt63, kt64, kt65, kt66, kt67, kt68, kt69, kt70, kt71, kt72, kt73, kt74, kt75, kt76, kty, ko6, ko8, ko9, ke3, dIsi, kindOf, tagOf, clsTag, tripF, eqG_trip ok ok', hn, wordOf, tripB]
  · rcases hc with rfl | rfl <;> rcases hc' with rfl | rfl <;> simp [ap_f2, ap_cons, ap_cons2, ap_and, ap_or, ap_not, ap_if, ap_andV, ap_andV2, ap_orV, ap_orV2, ap_notV, ap_notV2, ap_ch1, ap_ch2, ap_ch3, ap_ch4, ap_lst, ap_tup, ap_lstM, ap_sl, ap_sl2, ap_ret, ap_drop, ap_set, ap_nx, ap_asg, ap_par, ap_par3, ap_r1, ap_r2, ap_si1, ap_si2, ap_si3, ap_sf1, ap_sf2, ap_for, ap_lcE, x_var, vK_some, x_c, x_f1, x_f2, x_nil, x_cons, x_and, x_or, x_not, x_if, x_andV, x_orV, x_notV, x_chain, x_lst, x_tup, x_lstM, x_sl, x_seq, sqK_nx, sqK_rt, sqK_bk, sqK_ct, x_ret, x_retN, x_drop, x_next, x_brk, x_cnt, x_set, x_asg, x_par, x_par3, x_raise1, x_raise2, x_setI, x_setF, endK_rt, endK_nx, x_for, x_bind, bd_ok, bd_er, bd_bad, bnd_bd, ret_ap, bad_ap, ite_ap, List.map_cons, List.map_nil, List.length_cons, List.length_nil, List.cons_append, List.nil_append, List.replicate, List.getElem?_cons_zero, List.getElem?_cons_succ, List.set_cons_zero, List.set_cons_succ, if_true, if_false, Bool.true_eq_false, Bool.false_eq_true, Bool.not_true, Bool.not_false, ite_true, ite_false, ↓reduceIte, Nat.reduceSub, Nat.reduceAdd, big, Nat.reduceLeDiff, Nat.zero_le, decide_true, decide_false, eq_self, dBool, dAdd, dSub, dMul, dMod, dFdiv, dPow, dNeg, dLt, dLe, dGt, dGe, eqG_int, eqG_str, eqG_bl, xor_t, xor_f, dIsN, dNotN, dTru, dIx, dLen, dAbs, dInt, dStr, dMax2, dMin2, app_get, app_set, putFD, lookF, lookC, str_inj, String.reduceEq, List.mem_cons, List.not_mem_nil, or_false, or_true, true_or, false_or, Nat.reduceEqDiff, and_self, true_and, and_true, Nat.reduceLT, dFld, dCon, asI, D.limF, D.lim, D.limL, Bool.and_true, Bool.true_and, fMeth, fMeth0, methOf, reduceCtorEq, Nat.zero_ne_one, Nat.one_ne_zero, kt0, kt1, kt2, kt3, kt4, kt5, kt6, kt7, kt8, kt9, kt10, kt11, kt12, kt13, kt14, kt15, kt16, kt17, kt18, kt19, kt20, kt21, kt22, kt23, kt24, kt25, kt26, kt27, kt28, kt29, kt30, kt31, kt32, kt33, kt34, kt35, kt36, kt37, kt38, kt39, kt40, kt41, kt42, kt43, kt44, kt45, kt46, kt47, kt48, kt49, kt50, kt51, kt52, kt53, kt54, kt55, kt56, kt57, kt58, kt59, kt60, kt61, kt62, kt63, kt64, kt65, kt66, kt67, kt68, kt69, kt70, kt71, kt72, kt73, kt74, kt75, kt76, kty, ko6, ko8, ko9, ke3, dIsi, kindOf, tagOf, clsTag, tripF, eqG_trip ok ok', hn, wordOf, tripB]
theorem e_teqN {d : D} (hc : c = 8 ∨ c = 9) (h : PlainD d) : F_Trip_eq [.ins c (tripF n s l t g), d] S = .ok (.bl false) S := by
  unfold F_Trip_eq
  refine (x_run (by rfl)).trans ?_
  rcases hc with rfl | rfl <;> (cases d <;> first | exact h.elim | simp only [ap_f2, ap_cons, ap_cons2, ap_and, ap_or, ap_not, ap_if, ap_andV, ap_andV2, ap_orV, ap_orV2, ap_notV, ap_notV2, ap_ch1, ap_ch2, ap_ch3, ap_ch4, ap_lst, ap_tup, ap_lstM, ap_sl, ap_sl2, ap_ret, ap_drop, ap_set, ap_nx, ap_asg, ap_par, ap_par3, ap_r1, ap_r2, ap_si1, ap_si2, ap_si3, ap_sf1, ap_sf2, ap_for, ap_lcE, x_var, vK_some, x_c, x_f1, x_f2, x_nil, x_cons, x_and, x_or, x_not, x_if, x_andV, x_orV, x_notV, x_chain, x_lst, x_tup, x_lstM, x_sl, x_seq, sqK_nx, sqK_rt, sqK_bk, sqK_ct, x_ret, x_retN, x_drop, x_next, x_brk, x_cnt, x_set, x_asg, x_par, x_par3, x_raise1, x_raise2, x_setI, x_setF, endK_rt, endK_nx, x_for, x_bind, bd_ok, bd_er, bd_bad, bnd_bd, ret_ap, bad_ap, ite_ap, List.map_cons, List.map_nil, List.length_cons, List.length_nil, List.cons_append, List.nil_append, List.replicate, List.getElem?_cons_zero, List.getElem?_cons_succ, List.set_cons_zero, List.set_cons_succ, if_true, if_false, Bool.true_eq_false, Bool.false_eq_true, Bool.not_true, Bool.not_false, ite_true, ite_false, ↓reduceIte, Nat.reduceSub, Nat.reduceAdd, big, Nat.reduceLeDiff, Nat.zero_le, decide_true, decide_false, eq_self, dBool, dAdd, dSub, dMul, dMod, dFdiv, dPow, dNeg, dLt, dLe, dGt, dGe, eqG_int, eqG_str, eqG_bl, xor_t, xor_f, dIsN, dNotN, dTru, dIx, dLen, dAbs, dInt, dStr, dMax2, dMin2, app_get, app_set, putFD, lookF, lookC, str_inj, String.reduceEq, List.mem_cons, List.not_mem_nil, or_false, or_true, true_or, false_or, Nat.reduceEqDiff, and_self, true_and, and_true, Nat.reduceLT, dFld, dCon, asI, D.limF, D.lim, D.limL, Bool.and_true, Bool.true_and, fMeth, fMeth0, methOf, reduceCtorEq, Nat.zero_ne_one, Nat.one_ne_zero, kt0, kt1, kt2, kt3, kt4, kt5, kt6, kt7, kt8, kt9, kt10, kt11, kt12, kt13, kt14, kt15, kt16, kt17, kt18, kt19, kt20, kt21, kt22, kt23, kt24, kt25, kt26, kt27, kt28, kt29, kt30, kt31, kt32, kt33, kt34, kt35, kt36, kt37, kt38, kt39, kt40, kt41, kt42, kt43, kt44, kt45, kt46, kt47, kt48, kt49, kt50, kt51, kt52, kt53, kt54, kt55, kt56, kt57, kt58, kt59, kt60, kt61, kt62, kt63, kt64, kt65, kt66, kt67, kt68, kt69, kt70, kt71, kt72, kt73, kt74, kt75, kt76, kty, ko6, ko8, ko9, ke3, dIsi, kindOf, tagOf, clsTag])
/-! draws -/
theorem e_title {P : O} {R : Store} {k : Nat} (pn : Pn P (k + 1)) : ∃ z P', F_title [.loc 0] (P :: R) = .ok (.str z) (P' :: R) ∧ Pn P' k ∧ isName z = true := by
  obtain ⟨v, P', e, pn', hv⟩ := e_pick (R := R) (xs := [.str "a", .str "b", .str "p", .str "run", .str "stay", .str "day", .str "pauses", .str "zz", .str "zzzzzzzz", .str "self", .str "ab", .str "abcdefgh", .str "x"]) pn (by decide) (by decide)
  have hx : ∃ z : Str, v = .str z ∧ isName z = true := by
    simp only [List.mem_cons, List.not_mem_nil, or_false] at hv
    rcases hv with rfl | rfl | rfl | rfl | rfl | rfl | rfl | rfl | rfl | rfl | rfl | rfl | rfl
    all_goals exact ⟨_, rfl, by decide +kernel⟩
  obtain ⟨z, rfl, hz⟩ := hx
  refine ⟨z, P', ?_, pn', hz⟩
  unfold F_title
  refine (x_run (by rfl)).trans ?_
  simp only [ap_f2, ap_cons, ap_cons2, ap_and, ap_or, ap_not, ap_if, ap_andV, ap_andV2, ap_orV, ap_orV2, ap_notV, ap_notV2, ap_ch1, ap_ch2, ap_ch3, ap_ch4, ap_lst, ap_tup, ap_lstM, ap_sl, ap_sl2, ap_ret, ap_drop, ap_set, ap_nx, ap_asg, ap_par, ap_par3, ap_r1, ap_r2, ap_si1, ap_si2, ap_si3, ap_sf1, ap_sf2, ap_for, ap_lcE, x_var, vK_some, x_c, x_f1, x_f2, x_nil, x_cons, x_and, x_or, x_not, x_if, x_andV, x_orV, x_notV, x_chain, x_lst, x_tup, x_lstM, x_sl, x_seq, sqK_nx, sqK_rt, sqK_bk, sqK_ct, x_ret, x_retN, x_drop, x_next, x_brk, x_cnt, x_set, x_asg, x_par, x_par3, x_raise1, x_raise2, x_setI, x_setF, endK_rt, endK_nx, x_for, x_bind, bd_ok, bd_er, bd_bad, bnd_bd, ret_ap, bad_ap, ite_ap, List.map_cons, List.map_nil, List.length_cons, List.length_nil, List.cons_append, List.nil_append, List.replicate, List.getElem?_cons_zero, List.getElem?_cons_succ, List.set_cons_zero, List.set_cons_succ, if_true, if_false, Bool.true_eq_false, Bool.false_eq_true, Bool.not_true, Bool.not_false, ite_true, ite_false, ↓reduceIte, Nat.reduceSub, Nat.reduceAdd, big, Nat.reduceLeDiff, Nat.zero_le, decide_true, decide_false, eq_self, e]
theorem e_number {P : O} {R : Store} {k : Nat} {lo : Int} (pn : Pn P (k + 3)) (h0 : 0 ≤ lo ∧ lo ≤ 1) : ∃ i P', F_number [.loc 0, .int lo] (P :: R) = .ok (.int i) (P' :: R) ∧ Pn P' k ∧ lo ≤ i ∧ i ≤ 1000000000000 := by
  obtain ⟨d1, P1, e1, pn1, a1, b1⟩ := e_draw (R := R) (many := 100) pn (by decide) (by decide)
  obtain ⟨d2, P2, e2, pn2, a2, b2⟩ := e_draw (R := R) (many := 9) pn1 (by decide) (by decide)
  obtain ⟨v, P3, e3, pn3, hv⟩ := e_pick (R := R) (xs := [.int 0, .int 1, .int 2, .int d1, .int 1439, .int 1000000000000, .int (1000000000000 - d2)]) pn2 (by simp) (by simp)
  have hx : ∃ i : Int, v = .int i ∧ 0 ≤ i ∧ i ≤ 1000000000000 := by
    simp only [List.mem_cons, List.not_mem_nil, or_false] at hv
    rcases hv with rfl | rfl | rfl | rfl | rfl | rfl | rfl
    all_goals exact ⟨_, rfl, by omega, by omega⟩
  obtain ⟨i, rfl, i0, i1⟩ := hx
  refine ⟨if i > lo then i else lo, P3, ?_, pn3, by split <;> omega, by split <;> omega⟩
  have e12 : (10 : Int) ^ Int.toNat 12 = 1000000000000 := by decide
  have g12 : (0 ≤ (12 : Int) ∧ (12 : Int) ≤ 1000000 ∧ (10 : Int).natAbs < 2 ^ 64) = True := eq_true (by decide)
  unfold F_number
  refine (x_run (by rfl)).trans ?_
  simp only [ap_f2, ap_cons, ap_cons2, ap_and, ap_or, ap_not, ap_if, ap_andV, ap_andV2, ap_orV, ap_orV2, ap_notV, ap_notV2, ap_ch1, ap_ch2, ap_ch3, ap_ch4, ap_lst, ap_tup, ap_lstM, ap_sl, ap_sl2, ap_ret, ap_drop, ap_set, ap_nx, ap_asg, ap_par, ap_par3, ap_r1, ap_r2, ap_si1, ap_si2, ap_si3, ap_sf1, ap_sf2, ap_for, ap_lcE, x_var, vK_some, x_c, x_f1, x_f2, x_nil, x_cons, x_and, x_or, x_not, x_if, x_andV, x_orV, x_notV, x_chain, x_lst, x_tup, x_lstM, x_sl, x_seq, sqK_nx, sqK_rt, sqK_bk, sqK_ct, x_ret, x_retN, x_drop, x_next, x_brk, x_cnt, x_set, x_asg, x_par, x_par3, x_raise1, x_raise2, x_setI, x_setF, endK_rt, endK_nx, x_for, x_bind, bd_ok, bd_er, bd_bad, bnd_bd, ret_ap, bad_ap, ite_ap, List.map_cons, List.map_nil, List.length_cons, List.length_nil, List.cons_append, List.nil_append, List.replicate, List.getElem?_cons_zero, List.getElem?_cons_succ, List.set_cons_zero, List.set_cons_succ, if_true, if_false, Bool.true_eq_false, Bool.false_eq_true, Bool.not_true, Bool.not_false, ite_true, ite_false, ↓reduceIte, Nat.reduceSub, Nat.reduceAdd, big, Nat.reduceLeDiff, Nat.zero_le, decide_true, decide_false, eq_self, dBool, dAdd, dSub, dMul, dMod, dFdiv, dPow, dNeg, dLt, dLe, dGt, dGe, eqG_int, eqG_str, eqG_bl, xor_t, xor_f, dIsN, dNotN, dTru, dIx, dLen, dAbs, dInt, dStr, dMax2, dMin2, e1, e2, e3, e12, g12]
theorem e_kinds (hc : c = 8 ∨ c = 9) : F_kinds [.ins c (tripF n s l t g)] S = .ok (.lst [.bl true, .bl (c == 8), .bl (c == 8), .bl (c == 9)]) S := by
  unfold F_kinds
  refine (x_run (by rfl)).trans ?_
  rcases hc with rfl | rfl <;> (simp only [ap_f2, ap_cons, ap_cons2, ap_and, ap_or, ap_not, ap_if, ap_andV, ap_andV2, ap_orV, ap_orV2, ap_notV, ap_notV2, ap_ch1, ap_ch2, ap_ch3, ap_ch4, ap_lst, ap_tup, ap_lstM, ap_sl, ap_sl2, ap_ret, ap_drop, ap_set, ap_nx, ap_asg, ap_par, ap_par3, ap_r1, ap_r2, ap_si1, ap_si2, ap_si3, ap_sf1, ap_sf2, ap_for, ap_lcE, x_var, vK_some, x_c, x_f1, x_f2, x_nil, x_cons, x_and, x_or, x_not, x_if, x_andV, x_orV, x_notV, x_chain, x_lst, x_tup, x_lstM, x_sl, x_seq, sqK_nx, sqK_rt, sqK_bk, sqK_ct, x_ret, x_retN, x_drop, x_next, x_brk, x_cnt, x_set, x_asg, x_par, x_par3, x_raise1, x_raise2, x_setI, x_setF, endK_rt, endK_nx, x_for, x_bind, bd_ok, bd_er, bd_bad, bnd_bd, ret_ap, bad_ap, ite_ap, List.map_cons, List.map_nil, List.length_cons, List.length_nil, List.cons_append, List.nil_append, List.replicate, List.getElem?_cons_zero, List.getElem?_cons_succ, List.set_cons_zero, List.set_cons_succ, if_true, if_false, Bool.true_eq_false, Bool.false_eq_true, Bool.not_true, Bool.not_false, ite_true, ite_false, ↓reduceIte, Nat.reduceSub, Nat.reduceAdd, big, Nat.reduceLeDiff, Nat.zero_le, decide_true, decide_false, eq_self, dBool, dAdd, dSub, dMul, dMod, dFdiv, dPow, dNeg, dLt, dLe, dGt, dGe, eqG_int, eqG_str, eqG_bl, xor_t, xor_f, dIsN, dNotN, dTru, dIx, dLen, dAbs, dInt, dStr, dMax2, dMin2, app_get, app_set, putFD, lookF, lookC, str_inj, String.reduceEq, List.mem_cons, List.not_mem_nil, or_false, or_true, true_or, false_or, Nat.reduceEqDiff, and_self, true_and, and_true, Nat.reduceLT, dFld, dCon, asI, D.limF, D.lim, D.limL, Bool.and_true, Bool.true_and, fMeth, fMeth0, methOf, reduceCtorEq, Nat.zero_ne_one, Nat.one_ne_zero, kt0, kt1, kt2, kt3, kt4, kt5, kt6, kt7, kt8, kt9, kt10, kt11, kt12, kt13, kt14, kt15, kt16, kt17, kt18, kt19, kt20, kt21, kt22, kt23, kt24, kt25, kt26, kt27, kt28, kt29, kt30, kt31, kt32, kt33, kt34, kt35, kt36, kt37, kt38, kt39, kt40, kt41, kt42, kt43, kt44, kt45, kt46, kt47, kt48, kt49, kt50, kt51, kt52, kt53, kt54, kt55, kt56, kt57, kt58, kt59, kt60, kt61, kt62, kt63, kt64, kt65, kt66, kt67, kt68, kt69, kt70, kt71, kt72, kt73, kt74, kt75, kt76, kty, ko6, ko8, ko9, ke3, dIsi, kindOf, tagOf, clsTag]; rfl)
def partsD (n s : Str) (l t : Int) (g : Str) : List D := [.str n, .str s, .int l, .int t, .str g]
def partsP (n s : Str) (l t : Int) (g : Str) : List PyData := [.str n, .str s, .int l, .int t, .str g]
theorem py_parts : toPyL S (partsD n s l t g) = some (partsP n s l t g) := by simp [partsD, partsP, toPyL, toPy]
theorem e_repr (ok : TripOk n s l t g) : dRepr [.lst (partsD n s l t g)] S = .ok (.str (PyData.list (partsP n s l t g)).shown) S := by
  have sh := sh_parts ok
  unfold dRepr pyOf
  simp only [toPy, py_parts, Option.map]
  rw [if_pos ⟨sh.s, sh.h, Nat.le_trans sh.l (by decide), Nat.le_trans sh.k (by decide)⟩]
theorem e_parts (ok : TripOk n s l t g) (hc : c = 8 ∨ c = 9) : F_parts [.ins c (tripF n s l t g)] S = .ok (.str (PyData.list (partsP n s l t g)).shown) S := by
  unfold F_parts
  refine (x_run (by rfl)).trans ?_
  have er := e_repr (S := S) ok
  unfold partsD at er
  rcases hc with rfl | rfl <;> simp only [ap_f2, ap_cons, ap_cons2, ap_and, ap_or, ap_not, ap_if, ap_andV, ap_andV2, ap_orV, ap_orV2, ap_notV, ap_notV2, ap_ch1, ap_ch2, ap_ch3, ap_ch4, ap_lst, ap_tup, ap_lstM, ap_sl, ap_sl2, ap_ret, ap_drop, ap_set, ap_nx, ap_asg, ap_par, ap_par3, ap_r1, ap_r2, ap_si1, ap_si2, ap_si3, ap_sf1, ap_sf2, ap_for, ap_lcE, x_var, vK_some, x_c, x_f1, x_f2, x_nil, x_cons, x_and, x_or, x_not, x_if, x_andV, x_orV, x_notV, x_chain, x_lst, x_tup, x_lstM, x_sl, x_seq, sqK_nx, sqK_rt, sqK_bk, sqK_ct, x_ret, x_retN, x_drop, x_next, x_brk, x_cnt, x_set, x_asg, x_par, x_par3, x_raise1, x_raise2, x_setI, x_setF, endK_rt, endK_nx, x_for, x_bind, bd_ok, bd_er, bd_bad, bnd_bd, ret_ap, bad_ap, ite_ap, List.map_cons, List.map_nil, List.length_cons, List.length_nil, List.cons_append, List.nil_append, List.replicate, List.getElem?_cons_zero, List.getElem?_cons_succ, List.set_cons_zero, List.set_cons_succ, if_true, if_false, Bool.true_eq_false, Bool.false_eq_true, Bool.not_true, Bool.not_false, ite_true, ite_false, ↓reduceIte, Nat.reduceSub, Nat.reduceAdd, big, Nat.reduceLeDiff, Nat.zero_le, decide_true, decide_false, eq_self, dBool, dAdd, dSub, dMul, dMod, dFdiv, dPow, dNeg, dLt, dLe, dGt, dGe, eqG_int, eqG_str, eqG_bl, xor_t, xor_f, dIsN, dNotN, dTru, dIx, dLen, dAbs, dInt, dStr, dMax2, dMin2, app_get, app_set, putFD, lookF, lookC, str_inj, String.reduceEq, List.mem_cons, List.not_mem_nil, or_false, or_true, true_or, false_or, Nat.reduceEqDiff, and_self, true_and, and_true, Nat.reduceLT, dFld, dCon, asI, D.limF, D.lim, D.limL, Bool.and_true, Bool.true_and, fMeth, fMeth0, methOf, reduceCtorEq, Nat.zero_ne_one, Nat.one_ne_zero, kt0, kt1, kt2, kt3, kt4, kt5, kt6, kt7, kt8, kt9, kt10, kt11, kt12, kt13, kt14, kt15, kt16, kt17, kt18, kt19, kt20, kt21, kt22, kt23, kt24, kt25, kt26, kt27, kt28, kt29, kt30, kt31, kt32, kt33, kt34, kt35, kt36, kt37, kt38, kt39, kt40, kt41, kt42, kt43, kt44, kt45, kt46, kt47, kt48, kt49, kt50, kt51, kt52, kt53, kt54, kt55, kt56, kt57, kt58, kt59, kt60, kt61, kt62, kt63, kt64, kt65, kt66, kt67, kt68, kt69, kt70, kt71, kt72, kt73, kt74, kt75, kt76, kty, ko6, ko8, ko9, ke3, dIsi, kindOf, tagOf, clsTag, tripF, er]
theorem e_join6 (ok : TripOk n s l t g) : dJoin (.str " ") (.lst [.str "run", .str n, .str s, .str (toString l), .str (toString t), .str g]) S = .ok (.str (Txt.join " " ["run", n, s, toString l, toString t, g])) S := by
  have hn := (name_ok ok.n).2
  have hs := (name_ok ok.s).2
  have hg := (name_ok ok.g).2
  have hl := num_len (i := l) (by have := ok.l; omega)
  have ht := num_len (i := t) (by have := ok.t; omega)
  unfold dJoin
  simp only [asSq, asT, asL, Option.bind, strsOf, Option.map]
  rw [if_pos]
  have e1 : (Str.ofString "run").length = 3 := by decide
  have e2 : (Str.ofString " ").length = 1 := by decide
  simp only [List.map_cons, List.map_nil, List.sum_cons, List.sum_nil, List.length_cons, List.length_nil, e1, e2]
  show _ ≤ 1000000
  omega
theorem e_join5 (ok : TripOk n s l t g) : dJoin (.str " ") (.lst [.str "stay", .str n, .str s, .str (toString l), .str (toString t)]) S = .ok (.str (Txt.join " " ["stay", n, s, toString l, toString t])) S := by
  have hn := (name_ok ok.n).2
  have hs := (name_ok ok.s).2
  have hl := num_len (i := l) (by have := ok.l; omega)
  have ht := num_len (i := t) (by have := ok.t; omega)
  unfold dJoin
  simp only [asSq, asT, asL, Option.bind, strsOf, Option.map]
  rw [if_pos]
  have e1 : (Str.ofString "stay").length = 4 := by decide
  have e2 : (Str.ofString " ").length = 1 := by decide
  simp only [List.map_cons, List.map_nil, List.sum_cons, List.sum_nil, List.length_cons, List.length_nil, e1, e2]
  show _ ≤ 1000000
  omega
theorem own8 : (8 ∈ kOwn) = True := by decide
theorem ownEq (ok : TripOk n s l t g) (ok' : TripOk n' s' l' t' g') : dOwn 8 kOwn nfRun F_Trip_eq (.ins 8 (tripF n s l t g)) (.ins 8 (tripF n' s' l' t' g')) S = .ok (.bl (tripB "run" "run" n n' s s' g g' l l' t t')) S := by
  unfold dOwn
  simp only [asI, tagOf]
  rw [if_pos (by decide)]
  exact e_teq ok ok' (.inl rfl) (.inl rfl)
theorem ownNe (ok : TripOk n s l t g) (ok' : TripOk n' s' l' t' g') : dOwnB 8 kOwn nfRun F_Trip_eq true (.ins 8 (tripF n s l t g)) (.ins 8 (tripF n' s' l' t' g')) S = .ok (.bl (!tripB "run" "run" n n' s s' g g' l l' t t')) S := by
  unfold dOwnB
  simp only [asI, tagOf]
  rw [if_pos (by decide), bnd_bd, e_teq ok ok' (.inl rfl) (.inl rfl)]
  simp only [ap_f2, ap_cons, ap_cons2, ap_and, ap_or, ap_not, ap_if, ap_andV, ap_andV2, ap_orV, ap_orV2, ap_notV, ap_notV2, ap_ch1, ap_ch2, ap_ch3, ap_ch4, ap_lst, ap_tup, ap_lstM, ap_sl, ap_sl2, ap_ret, ap_drop, ap_set, ap_nx, ap_asg, ap_par, ap_par3, ap_r1, ap_r2, ap_si1, ap_si2, ap_si3, ap_sf1, ap_sf2, ap_for, ap_lcE, x_var, vK_some, x_c, x_f1, x_f2, x_nil, x_cons, x_and, x_or, x_not, x_if, x_andV, x_orV, x_notV, x_chain, x_lst, x_tup, x_lstM, x_sl, x_seq, sqK_nx, sqK_rt, sqK_bk, sqK_ct, x_ret, x_retN, x_drop, x_next, x_brk, x_cnt, x_set, x_asg, x_par, x_par3, x_raise1, x_raise2, x_setI, x_setF, endK_rt, endK_nx, x_for, x_bind, bd_ok, bd_er, bd_bad, bnd_bd, ret_ap, bad_ap, ite_ap, List.map_cons, List.map_nil, List.length_cons, List.length_nil, List.cons_append, List.nil_append, List.replicate, List.getElem?_cons_zero, List.getElem?_cons_succ, List.set_cons_zero, List.set_cons_succ, if_true, if_false, Bool.true_eq_false, Bool.false_eq_true, Bool.not_true, Bool.not_false, ite_true, ite_false, ↓reduceIte, Nat.reduceSub, Nat.reduceAdd, big, Nat.reduceLeDiff, Nat.zero_le, decide_true, decide_false, eq_self, xor_t]
  rfl
theorem ownEqN {d : D} (h : PlainD d) : dOwn 8 kOwn nfRun F_Trip_eq (.ins 8 (tripF n s l t g)) d S = .ok (.bl false) S := by
  unfold dOwn
  cases d <;> first | exact h.elim | (simp only [asI, tagOf]; rw [if_pos (by decide)]; exact e_teqN (.inl rfl) h)
theorem ownEqS (ok : TripOk n s l t g) (ok' : TripOk n' s' l' t' g') : dOwn 8 kOwn nfRun F_Trip_eq (.ins 8 (tripF n s l t g)) (.ins 9 (tripF n' s' l' t' g')) S = .ok (.bl false) S := by
  unfold dOwn
  simp only [asI, tagOf]
  rw [if_pos (by decide)]
  refine (e_teq ok ok' (.inl rfl) (.inr rfl)).trans ?_
  rfl
theorem eqv_parts : PyData.eqv (.list (partsP n s l t g)) (.list (partsP n' s' l' t' g')) = tripB "run" "run" n n' s s' g g' l l' t t' := by
  unfold partsP tripB
  simp only [PyData.eqv, PyData.eqvAll, Bool.and_true]
  by_cases h0 : n = n' <;> by_cases h1 : s = s' <;> by_cases h2 : l = l' <;> by_cases h3 : t = t' <;> by_cases h4 : g = g' <;> simp [h0, h1, h2, h3, h4]
theorem shaped_parts (ok : TripOk n s l t g) : SeqAt.shaped (.list (partsP n s l t g)) = true := by
  show ((PyData.strOk n && (PyData.strOk s && (true && (true && (PyData.strOk g && true))))) && decide _) = true
  rw [(name_ok ok.n).1, (name_ok ok.s).1, (name_ok ok.g).1]
  rfl
end
end Ol

namespace Ol
open PySem L2 LamX
section
variable {n s g n' s' g' : Str} {l t l' t' : Int} {S : Store} {c c' : Nat} {P : O} {R J : Store} {k : Nat}
theorem tripB_comm {w : Str} : tripB w w n n' s s' g g' l l' t t' = tripB w w n' n s' s g' g l' l t' t := by
  unfold tripB
  congr 1
  apply propext
  constructor <;> rintro ⟨_, h1, h2, h3, h4, h5⟩ <;> exact ⟨rfl, h1.symm, h2.symm, h3.symm, h4.symm, h5.symm⟩
theorem cleanP (pn : Pn P k) (h : Clean J) : Clean (P :: J) := h.cons fun k => pn.lim k
theorem limParts (k : Nat) : O.lim k (.lst (partsD n s l t g)) = true := by simp [O.lim, partsD, D.limL, D.lim]
def envR (n s g : Str) (l t : Int) (x3 x4 x5 x11 x12 x13 : Option D) : Env8 := [some (.loc 0), some (.lst (partsD n s l t g)), some (.ins 8 (tripF n s l t g)), x3, x4, x5, some (.str n), some (.str s), some (.int l), some (.int t), some (.str g), x11, x12, x13]
theorem e_itR (ok : TripOk n s l t g) (pn : Pn P (k + 3)) (hJ : Clean J) {a : Nat} (ha : a < 5) {x3 x5 x11 x12 x13 : Option D} : ∃ P' o y11 y12, L_run_right_0 (envR n s g l t x3 (some (.int (a : Int))) x5 x11 x12 x13) (P :: J) = .ok (.nx (envR n s g l t x3 (some (.int (a : Int))) x5 y11 y12 x13)) (P' :: (J ++ [o])) ∧ Pn P' k ∧ ∀ k, O.lim k o = true := by
  -- the changed parts
  have key : ∀ (n1 s1 g1 : Str) (l1 t1 : Int) (v : D) (P' : O) (b : Bool), TripOk n1 s1 l1 t1 g1 → Pn P' k → (partsD n s l t g).set a v = partsD n1 s1 l1 t1 g1 → inV (.int (a : Int)) [.int 0, .int 1, .int 4] = b →
      (if b = true then F_title [.loc 0] (P :: (J ++ [.lst (partsD n s l t g)])) else F_number [.loc 0, .int 1] (P :: (J ++ [.lst (partsD n s l t g)]))) = .ok v (P' :: (J ++ [.lst (partsD n s l t g)])) →
      ∃ P' o y11 y12, L_run_right_0 (envR n s g l t x3 (some (.int (a : Int))) x5 x11 x12 x13) (P :: J) = .ok (.nx (envR n s g l t x3 (some (.int (a : Int))) x5 y11 y12 x13)) (P' :: (J ++ [o])) ∧ Pn P' k ∧ ∀ k, O.lim k o = true := by
    intro n1 s1 g1 l1 t1 v P' b ok1 pn' hset hb hv
    refine ⟨P', .lst (partsD n1 s1 l1 t1 g1), some (.loc (J.length + 1)), some (.ins 8 (tripF n1 s1 l1 t1 g1)), ?_, pn', fun k => limParts k⟩
    have hl : (partsD n s l t g).length = 5 := rfl
    have hix : ixN 5 (a : Int) = some a := Evl.ixN_nat ha
    have hget : ∀ (Q o : O), (Q :: (J ++ [o]))[J.length + 1]? = some o := fun Q o => by rw [List.getElem?_cons_succ]; exact app_get
    have hst : ∀ (Q o o' : O), (Q :: (J ++ [o])).set (J.length + 1) o' = Q :: (J ++ [o']) := fun Q o o' => by rw [List.set_cons_succ, app_set]
    have hmk := e_run (S := P' :: (J ++ [.lst (partsD n1 s1 l1 t1 g1)])) ok1 ((cleanP pn' (hJ.app (Clean.nil.cons fun k => limParts k))).all _)
    have he1 := eqG_loc (n := false) (S := P' :: (J ++ [.lst (partsD n1 s1 l1 t1 g1)])) (hget P' _) py_parts py_parts (shaped_parts ok1) (shaped_parts ok)
    have i0 : atI (partsD n1 s1 l1 t1 g1) 0 = some (.str n1) := rfl
    have i1 : atI (partsD n1 s1 l1 t1 g1) 1 = some (.str s1) := rfl
    have i2 : atI (partsD n1 s1 l1 t1 g1) 2 = some (.int l1) := rfl
    have i3 : atI (partsD n1 s1 l1 t1 g1) 3 = some (.int t1) := rfl
    have i4 : atI (partsD n1 s1 l1 t1 g1) 4 = some (.str g1) := rfl
    unfold L_run_right_0
    unfold envR
    simp only [ap_f2, ap_cons, ap_cons2, ap_and, ap_or, ap_not, ap_if, ap_andV, ap_andV2, ap_orV, ap_orV2, ap_notV, ap_notV2, ap_ch1, ap_ch2, ap_ch3, ap_ch4, ap_lst, ap_tup, ap_lstM, ap_sl, ap_sl2, ap_ret, ap_drop, ap_set, ap_nx, ap_asg, ap_par, ap_par3, ap_r1, ap_r2, ap_si1, ap_si2, ap_si3, ap_sf1, ap_sf2, ap_for, ap_lcE, x_var, vK_some, x_c, x_f1, x_f2, x_nil, x_cons, x_and, x_or, x_not, x_if, x_andV, x_orV, x_notV, x_chain, x_lst, x_tup, x_lstM, x_sl, x_seq, sqK_nx, sqK_rt, sqK_bk, sqK_ct, x_ret, x_retN, x_drop, x_next, x_brk, x_cnt, x_set, x_asg, x_par, x_par3, x_raise1, x_raise2, x_setI, x_setF, endK_rt, endK_nx, x_for, x_bind, bd_ok, bd_er, bd_bad, bnd_bd, ret_ap, bad_ap, ite_ap, List.map_cons, List.map_nil, List.length_cons, List.length_nil, List.cons_append, List.nil_append, List.replicate, List.getElem?_cons_zero, List.getElem?_cons_succ, List.set_cons_zero, List.set_cons_succ, if_true, if_false, Bool.true_eq_false, Bool.false_eq_true, Bool.not_true, Bool.not_false, ite_true, ite_false, ↓reduceIte, Nat.reduceSub, Nat.reduceAdd, big, Nat.reduceLeDiff, Nat.zero_le, decide_true, decide_false, eq_self, dListM, dList, asL, dInG, flatD, flatL, asT, hb, xor_f, dBool, hv, hget, hl, hix, hset, hst, dIx, i0, i1, i2, i3, i4, hmk, ownEq ok ok1, ownNe ok ok1, he1, eqv_parts, xor_f, dBool, eqG_bl, xor_t, tripB_comm (n := n1) (n' := n)]
    cases tripB "run" "run" n n1 s s1 g g1 l l1 t t1 <;> rfl
  obtain ⟨z, P1, e1, pn1, hz⟩ := e_title (R := J ++ [.lst (partsD n s l t g)]) pn
  obtain ⟨i, P2, e2, pn2, hi⟩ := e_number (R := J ++ [.lst (partsD n s l t g)]) (lo := 1) pn (by decide)
  match a, ha with
  | 0, _ => exact key z s g l t (.str z) P1 true ⟨hz, ok.s, ok.g, ok.l, ok.t⟩ (pn1.le (by omega)) rfl rfl e1
  | 1, _ => exact key n z g l t (.str z) P1 true ⟨ok.n, hz, ok.g, ok.l, ok.t⟩ (pn1.le (by omega)) rfl rfl e1
  | 2, _ => exact key n s g i t (.int i) P2 false ⟨ok.n, ok.s, ok.g, ⟨by omega, hi.2⟩, ok.t⟩ pn2 rfl rfl e2
  | 3, _ => exact key n s g l i (.int i) P2 false ⟨ok.n, ok.s, ok.g, ok.l, hi⟩ pn2 rfl rfl e2
  | 4, _ => exact key n s z l t (.str z) P1 true ⟨ok.n, ok.s, hz, ok.l, ok.t⟩ (pn1.le (by omega)) rfl rfl e1
end
end Ol

namespace Ol
open PySem L2 LamX
section
variable {n s g n' s' g' : Str} {l t l' t' : Int} {S : Store} {c c' : Nat} {P : O} {R J : Store} {k : Nat} {env : Env8}
theorem lc_none {p : Pat} {t : Env8 → M Bool} {fe : Env8 → M D} {ds : List D} (h : ∀ d ∈ ds, ∃ e, bindM p d env S = .ok e S ∧ t e S = .ok false S) : noEr (loopC p t fe env ds) S = .ok [] S := by
  refine noEr_ok ((lc_filter8 (g := id) (k := fun _ => false) fun d hd => ?_).trans ?_)
  · obtain ⟨e, h1, h2⟩ := h d hd
    exact ⟨e, h1, h2, fun h => by cases h⟩
  · rw [List.filter_eq_nil_iff.mpr (by simp)]; rfl
theorem eqG_nil : dEqG false (.lst []) (.lst []) S = .ok (.bl true) S := eqG_self (ps := []) rfl (by decide)
theorem rng5 : dRange1 [.int 5] S = .ok [.int 0, .int 1, .int 2, .int 3, .int 4] S := rfl
theorem rng4 : dRange1 [.int 4] S = .ok [.int 0, .int 1, .int 2, .int 3] S := rfl
theorem rng10 : dRange1 [.int 10] S = .ok [.int 0, .int 1, .int 2, .int 3, .int 4, .int 5, .int 6, .int 7, .int 8, .int 9] S := rfl
theorem e_loopR (ok : TripOk n s l t g) (pn : Pn P (k + 15)) (hJ : Clean J) {x3 x4 x5 x11 x12 x13 : Option D} : ∃ P' J' y4 y11 y12, loopF (.nm 4) L_run_right_0 [.int 0, .int 1, .int 2, .int 3, .int 4] (envR n s g l t x3 x4 x5 x11 x12 x13) (P :: J) = .ok (.nx (envR n s g l t x3 y4 x5 y11 y12 x13)) (P' :: (J ++ J')) ∧ Pn P' k ∧ Clean J' := by
  obtain ⟨e, S', h1, P', J', y4, y11, y12, rfl, rfl, pn', hJ'⟩ := loop_inv (p := .nm 4) (b := L_run_right_0) (ds := [.int 0, .int 1, .int 2, .int 3, .int 4]) (k := 0) (env := envR n s g l t x3 x4 x5 x11 x12 x13) (S := P :: J)
    (I := fun i e S => ∃ P' J' y4 y11 y12, e = envR n s g l t x3 y4 x5 y11 y12 x13 ∧ S = P' :: (J ++ J') ∧ Pn P' (k + 15 - 3 * i) ∧ Clean J')
    ⟨P, [], x4, x11, x12, rfl, by rw [List.append_nil], pn, Clean.nil⟩ fun j d e S hd hI => by
      obtain ⟨P1, J1, y4, y11, y12, rfl, rfl, pn1, hJ1⟩ := hI
      have hj : j < 5 := by
        have := (List.getElem?_eq_some_iff.mp hd).1
        exact this
      have hdj : d = .int (j : Int) := by
        match j, hj with
        | 0, _ => exact (Option.some.inj hd).symm
        | 1, _ => exact (Option.some.inj hd).symm
        | 2, _ => exact (Option.some.inj hd).symm
        | 3, _ => exact (Option.some.inj hd).symm
        | 4, _ => exact (Option.some.inj hd).symm
      subst hdj
      refine ⟨_, x_bind, ?_⟩
      obtain ⟨P2, o, z11, z12, e2, pn2, ho⟩ := e_itR (k := k + 15 - 3 * (0 + j + 1)) (x3 := x3) (x5 := x5) (x11 := y11) (x12 := y12) (x13 := x13) ok (pn1.le (by omega)) (hJ.app hJ1) hj
      refine ⟨_, _, .inl e2, P2, J1 ++ [o], _, _, _, rfl, by rw [List.append_assoc], pn2, hJ1.app (Clean.nil.cons ho)⟩
  exact ⟨P', J', y4, y11, y12, h1, pn'.le (by simp), hJ'⟩
theorem perm5 {a b c d e : D} : perm [4, 3, 2, 1, 0] [] [a, b, c, d, e] = [e, d, c, b, a] := rfl
theorem perm4 {a b c d : D} : perm [3, 2, 1, 0] [] [a, b, c, d] = [d, c, b, a] := rfl
theorem e_run_right (ok : TripOk n s l t g) (pn : Pn P (k + 15)) (hR : Clean R) : ∃ P', F_run_right [.loc 0, .lst (partsD n s l t g)] (P :: R) = .ok (.bl true) (P' :: R) ∧ Pn P' k := by
  have ok' : TripOk n s l t s := ⟨ok.n, ok.s, ok.s, ok.l, ok.t⟩
  have cl : Clean (P :: R) := cleanP pn hR
  obtain ⟨P', J', y4, y11, y12, h1, pn', hJ'⟩ := e_loopR (x3 := some (.ins 8 (tripF n s l t g))) (x4 := none) (x5 := none) (x11 := none) (x12 := none) (x13 := none) ok pn hR
  have cl' : Clean (P' :: (R ++ J')) := cleanP pn' (hR.app hJ')
  refine ⟨P', ?_, pn'⟩
  unfold F_run_right runG
  have hm := e_run (S := P :: R) ok (cl.all _)
  have hst := e_stay (S := P' :: (R ++ J')) ok' (cl'.all _)
  have hs : ∀ S, dStrO 8 F_Run_str [.ins 8 (tripF n s l t g)] S = .ok (.str (Txt.join " " ["run", n, s, toString l, toString t, g])) S := fun S => by
    unfold dStrO
    simp only [asI, if_true, bnd_bd, e_rstr ok, bd_ok, ret_ap]
  have hj := e_join6 (S := P :: R) ok
  have hp := e_parts (S := P :: R) ok (.inl rfl : (8 : Nat) = 8 ∨ 8 = 9)
  have hr := e_repr (S := P :: R) ok
  have hk := e_kinds (n := n) (s := s) (g := g) (l := l) (t := t) (S := P :: R) (.inl rfl : (8 : Nat) = 8 ∨ 8 = 9)
  have hbk : ∀ S, dEqG true (.lst [.bl true, .bl (8 == 8), .bl (8 == 8), .bl (8 == 9)]) (.lst [.bl true, .bl true, .bl true, .bl false]) S = .ok (.bl false) S := fun S => eqG_self (n := true) (S := S) (ps := [.bool true, .bool true, .bool true, .bool false]) rfl (by decide)
  have hu : ∀ (env : Env8), bindM (.tp [(.nm 6), (.nm 7), (.nm 8), (.nm 9), (.nm 10)]) (.lst (partsD n s l t g)) env (P :: R) = .ok (((((env.set 6 (some (.str n))).set 7 (some (.str s))).set 8 (some (.int l))).set 9 (some (.int t))).set 10 (some (.str g))) (P :: R) := fun env => by
    unfold bindM
    simp only [bindP, bindPs, asSq, asT, asL, partsD]
  have hi1 : dStr [.int l] (P :: R) = .ok (.str (toString l)) (P :: R) := if_pos_ap (num_log (by have := ok.l; omega))
  have hi2 : dStr [.int t] (P :: R) = .ok (.str (toString t)) (P :: R) := if_pos_ap (num_log (by have := ok.t; omega))
  have hlc : ∀ (env : Env8), env.length = 14 → env[2]? = some (some (.ins 8 (tripF n s l t g))) → noEr (loopC (.nm 13) (f1 dBool (f2 (dOwn 8 kOwn nfRun F_Trip_eq) (fVar 2) (fVar 13))) (fVar 13) env [.non, .int 0, .str (Txt.join " " ["run", n, s, toString l, toString t, g]), .tup (partsD n s l t g), .lst (partsD n s l t g), .ins 9 (tripF n s l t s)]) (P' :: (R ++ J')) = .ok [] (P' :: (R ++ J')) := fun env hl h2 => by
    refine lc_none fun d hd => ⟨_, x_bind, ?_⟩
    have hown : dOwn 8 kOwn nfRun F_Trip_eq (.ins 8 (tripF n s l t g)) d (P' :: (R ++ J')) = .ok (.bl false) (P' :: (R ++ J')) := by
      simp only [List.mem_cons, List.not_mem_nil, or_false] at hd
      rcases hd with rfl | rfl | rfl | rfl | rfl | rfl
      · exact ownEqN trivial
      · exact ownEqN trivial
      · exact ownEqN trivial
      · exact ownEqN trivial
      · exact ownEqN trivial
      · exact ownEqS ok ok'
    have g2 : (env.set 13 (some d))[2]? = some (some (.ins 8 (tripF n s l t g))) := by rw [List.getElem?_set_ne (by decide)]; exact h2
    have g13 : (env.set 13 (some d))[13]? = some (some d) := by rw [List.getElem?_set_self (by omega)]
    simp only [x_f1, x_f2, ap_f2, x_var, g2, g13, vK_some, bd_ok, hown, dBool, ret_ap]
  unfold envR at h1
  refine (gc_ok (d := .bl true) (S' := P' :: (R ++ J')) ?_ rfl ?_).trans ?_
  · refine (x_run (by rfl)).trans ?_
    have w8 : ∀ a b c d e f g h i j k l m o : Option D, wipe8 [a, b, c, d, e, f, g, h, i, j, k, l, m, o] (Pat.slots (.nm 13)) = [a, b, c, d, e, f, g, h, i, j, k, l, m, none] := fun _ _ _ _ _ _ _ _ _ _ _ _ _ _ => rfl
    simp only [ap_f2, ap_cons, ap_cons2, ap_and, ap_or, ap_not, ap_if, ap_andV, ap_andV2, ap_orV, ap_orV2, ap_notV, ap_notV2, ap_ch1, ap_ch2, ap_ch3, ap_ch4, ap_lst, ap_tup, ap_lstM, ap_sl, ap_sl2, ap_ret, ap_drop, ap_set, ap_nx, ap_asg, ap_par, ap_par3, ap_r1, ap_r2, ap_si1, ap_si2, ap_si3, ap_sf1, ap_sf2, ap_for, ap_lcE, x_var, vK_some, x_c, x_f1, x_f2, x_nil, x_cons, x_and, x_or, x_not, x_if, x_andV, x_orV, x_notV, x_chain, x_lst, x_tup, x_lstM, x_sl, x_seq, sqK_nx, sqK_rt, sqK_bk, sqK_ct, x_ret, x_retN, x_drop, x_next, x_brk, x_cnt, x_set, x_asg, x_par, x_par3, x_raise1, x_raise2, x_setI, x_setF, endK_rt, endK_nx, x_for, x_bind, bd_ok, bd_er, bd_bad, bnd_bd, ret_ap, bad_ap, ite_ap, List.map_cons, List.map_nil, List.length_cons, List.length_nil, List.cons_append, List.nil_append, List.replicate, List.getElem?_cons_zero, List.getElem?_cons_succ, List.set_cons_zero, List.set_cons_succ, if_true, if_false, Bool.true_eq_false, Bool.false_eq_true, Bool.not_true, Bool.not_false, ite_true, ite_false, ↓reduceIte, Nat.reduceSub, Nat.reduceAdd, big, Nat.reduceLeDiff, Nat.zero_le, decide_true, decide_false, eq_self, hu, hm, hp, hr, hk, hbk, eqG_str, xor_t, xor_f, hs, hi1, hi2, hj, fKw, perm5, and_self, ownNe ok ok, ownEq ok ok, tripB_self, dBool, rng5, h1, dTuple, asL, hst, x_lc, ap_lc, w8, dItems, hlc, eqG_nil]
  · rw [List.length_cons, List.take_succ_cons, List.take_left]
    exact (cleanP pn' hR).all _
  · rw [List.length_cons, List.take_succ_cons, List.take_left]
end
end Ol

namespace Ol
open PySem L2 LamX
section
variable {n s g n' s' g' : Str} {l t l' t' : Int} {S : Store} {c c' : Nat} {P : O} {R J : Store} {k : Nat} {env : Env8}
def partsD4 (n s : Str) (l t : Int) : List D := [.str n, .str s, .int l, .int t]
def partsP4 (n s : Str) (l t : Int) : List PyData := [.str n, .str s, .int l, .int t]
theorem py_parts4 : toPyL S (partsD4 n s l t) = some (partsP4 n s l t) := by simp [partsD4, partsP4, toPyL, toPy]
theorem eqv_parts4 : PyData.eqv (.list (partsP4 n s l t)) (.list (partsP4 n' s' l' t')) = tripB "stay" "stay" n n' s s' s s' l l' t t' := by
  unfold partsP4 tripB
  simp only [PyData.eqv, PyData.eqvAll, Bool.and_true]
  by_cases h0 : n = n' <;> by_cases h1 : s = s' <;> by_cases h2 : l = l' <;> by_cases h3 : t = t' <;> simp [h0, h1, h2, h3]
theorem shaped_parts4 (ok : TripOk n s l t g) : SeqAt.shaped (.list (partsP4 n s l t)) = true := by
  show ((PyData.strOk n && (PyData.strOk s && (true && (true && true)))) && decide _) = true
  rw [(name_ok ok.n).1, (name_ok ok.s).1]
  rfl
theorem limParts4 (k : Nat) : O.lim k (.lst (partsD4 n s l t)) = true := by simp [O.lim, partsD4, D.limL, D.lim]
theorem ownEq9 (ok : TripOk n s l t g) (ok' : TripOk n' s' l' t' g') : dOwn 9 kOwn nfStay F_Trip_eq (.ins 9 (tripF n s l t g)) (.ins 9 (tripF n' s' l' t' g')) S = .ok (.bl (tripB "stay" "stay" n n' s s' g g' l l' t t')) S := by
  unfold dOwn
  simp only [asI, tagOf]
  rw [if_pos (by decide)]
  exact e_teq ok ok' (.inr rfl) (.inr rfl)
theorem ownNe9 (ok : TripOk n s l t g) (ok' : TripOk n' s' l' t' g') : dOwnB 9 kOwn nfStay F_Trip_eq true (.ins 9 (tripF n s l t g)) (.ins 9 (tripF n' s' l' t' g')) S = .ok (.bl (!tripB "stay" "stay" n n' s s' g g' l l' t t')) S := by
  unfold dOwnB
  simp only [asI, tagOf]
  rw [if_pos (by decide), bnd_bd, e_teq ok ok' (.inr rfl) (.inr rfl)]
  simp only [ap_f2, ap_cons, ap_cons2, ap_and, ap_or, ap_not, ap_if, ap_andV, ap_andV2, ap_orV, ap_orV2, ap_notV, ap_notV2, ap_ch1, ap_ch2, ap_ch3, ap_ch4, ap_lst, ap_tup, ap_lstM, ap_sl, ap_sl2, ap_ret, ap_drop, ap_set, ap_nx, ap_asg, ap_par, ap_par3, ap_r1, ap_r2, ap_si1, ap_si2, ap_si3, ap_sf1, ap_sf2, ap_for, ap_lcE, x_var, vK_some, x_c, x_f1, x_f2, x_nil, x_cons, x_and, x_or, x_not, x_if, x_andV, x_orV, x_notV, x_chain, x_lst, x_tup, x_lstM, x_sl, x_seq, sqK_nx, sqK_rt, sqK_bk, sqK_ct, x_ret, x_retN, x_drop, x_next, x_brk, x_cnt, x_set, x_asg, x_par, x_par3, x_raise1, x_raise2, x_setI, x_setF, endK_rt, endK_nx, x_for, x_bind, bd_ok, bd_er, bd_bad, bnd_bd, ret_ap, bad_ap, ite_ap, List.map_cons, List.map_nil, List.length_cons, List.length_nil, List.cons_append, List.nil_append, List.replicate, List.getElem?_cons_zero, List.getElem?_cons_succ, List.set_cons_zero, List.set_cons_succ, if_true, if_false, Bool.true_eq_false, Bool.false_eq_true, Bool.not_true, Bool.not_false, ite_true, ite_false, ↓reduceIte, Nat.reduceSub, Nat.reduceAdd, big, Nat.reduceLeDiff, Nat.zero_le, decide_true, decide_false, eq_self, xor_t]
  rfl
theorem ownEqN9 {d : D} (h : PlainD d) : dOwn 9 kOwn nfStay F_Trip_eq (.ins 9 (tripF n s l t g)) d S = .ok (.bl false) S := by
  unfold dOwn
  cases d <;> first | exact h.elim | (simp only [asI, tagOf]; rw [if_pos (by decide)]; exact e_teqN (.inr rfl) h)
theorem ownEqS9 (ok : TripOk n s l t g) (ok' : TripOk n' s' l' t' g') : dOwn 9 kOwn nfStay F_Trip_eq (.ins 9 (tripF n s l t g)) (.ins 8 (tripF n' s' l' t' g')) S = .ok (.bl false) S := by
  unfold dOwn
  simp only [asI, tagOf]
  rw [if_pos (by decide)]
  refine (e_teq ok ok' (.inr rfl) (.inl rfl)).trans ?_
  rfl
theorem cut4 : dSl (.lst (partsD n s l t g)) none (some 4) S = .ok (.lst (partsD4 n s l t)) S := rfl
def envS (n s g : Str) (l t : Int) (x3 x8 x9 x10 : Option D) : Env8 := [some (.loc 0), some (.lst (partsD n s l t g)), some (.ins 9 (tripF n s l t s)), x3, some (.str n), some (.str s), some (.int l), some (.int t), x8, x9, x10]
theorem e_itS (ok0 : TripOk n s l t g) (pn : Pn P (k + 3)) (hJ : Clean J) {a : Nat} (ha : a < 4) {x8 x9 x10 : Option D} : ∃ P' o y8 y9, L_stay_right_0 (envS n s g l t (some (.int (a : Int))) x8 x9 x10) (P :: J) = .ok (.nx (envS n s g l t (some (.int (a : Int))) y8 y9 x10)) (P' :: (J ++ [o])) ∧ Pn P' k ∧ ∀ k, O.lim k o = true := by
  have ok : TripOk n s l t s := ⟨ok0.n, ok0.s, ok0.s, ok0.l, ok0.t⟩
  have key : ∀ (n1 s1 : Str) (l1 t1 : Int) (v : D) (P' : O) (b : Bool), TripOk n1 s1 l1 t1 s1 → Pn P' k → (partsD4 n s l t).set a v = partsD4 n1 s1 l1 t1 → decide ((a : Int) < 2) = b →
      (if b = true then F_title [.loc 0] (P :: (J ++ [.lst (partsD4 n s l t)])) else F_number [.loc 0, .int 1] (P :: (J ++ [.lst (partsD4 n s l t)]))) = .ok v (P' :: (J ++ [.lst (partsD4 n s l t)])) →
      ∃ P' o y8 y9, L_stay_right_0 (envS n s g l t (some (.int (a : Int))) x8 x9 x10) (P :: J) = .ok (.nx (envS n s g l t (some (.int (a : Int))) y8 y9 x10)) (P' :: (J ++ [o])) ∧ Pn P' k ∧ ∀ k, O.lim k o = true := by
    intro n1 s1 l1 t1 v P' b ok1 pn' hset hb hv
    refine ⟨P', .lst (partsD4 n1 s1 l1 t1), some (.loc (J.length + 1)), some (.ins 9 (tripF n1 s1 l1 t1 s1)), ?_, pn', fun k => limParts4 k⟩
    have hl : (partsD4 n s l t).length = 4 := rfl
    have hix : ixN 4 (a : Int) = some a := Evl.ixN_nat ha
    have hget : ∀ (Q o : O), (Q :: (J ++ [o]))[J.length + 1]? = some o := fun Q o => by rw [List.getElem?_cons_succ]; exact app_get
    have hst : ∀ (Q o o' : O), (Q :: (J ++ [o])).set (J.length + 1) o' = Q :: (J ++ [o']) := fun Q o o' => by rw [List.set_cons_succ, app_set]
    have hmk := e_stay (S := P' :: (J ++ [.lst (partsD4 n1 s1 l1 t1)])) ok1 ((cleanP pn' (hJ.app (Clean.nil.cons fun k => limParts4 k))).all _)
    have he1 := eqG_loc (n := false) (S := P' :: (J ++ [.lst (partsD4 n1 s1 l1 t1)])) (hget P' _) py_parts4 py_parts4 (shaped_parts4 ok1) (shaped_parts4 ok)
    have i0 : atI (partsD4 n1 s1 l1 t1) 0 = some (.str n1) := rfl
    have i1 : atI (partsD4 n1 s1 l1 t1) 1 = some (.str s1) := rfl
    have i2 : atI (partsD4 n1 s1 l1 t1) 2 = some (.int l1) := rfl
    have i3 : atI (partsD4 n1 s1 l1 t1) 3 = some (.int t1) := rfl
    unfold L_stay_right_0
    unfold envS
    simp only [ap_f2, ap_cons, ap_cons2, ap_and, ap_or, ap_not, ap_if, ap_andV, ap_andV2, ap_orV, ap_orV2, ap_notV, ap_notV2, ap_ch1, ap_ch2, ap_ch3, ap_ch4, ap_lst, ap_tup, ap_lstM, ap_sl, ap_sl2, ap_ret, ap_drop, ap_set, ap_nx, ap_asg, ap_par, ap_par3, ap_r1, ap_r2, ap_si1, ap_si2, ap_si3, ap_sf1, ap_sf2, ap_for, ap_lcE, x_var, vK_some, x_c, x_f1, x_f2, x_nil, x_cons, x_and, x_or, x_not, x_if, x_andV, x_orV, x_notV, x_chain, x_lst, x_tup, x_lstM, x_sl, x_seq, sqK_nx, sqK_rt, sqK_bk, sqK_ct, x_ret, x_retN, x_drop, x_next, x_brk, x_cnt, x_set, x_asg, x_par, x_par3, x_raise1, x_raise2, x_setI, x_setF, endK_rt, endK_nx, x_for, x_bind, bd_ok, bd_er, bd_bad, bnd_bd, ret_ap, bad_ap, ite_ap, List.map_cons, List.map_nil, List.length_cons, List.length_nil, List.cons_append, List.nil_append, List.replicate, List.getElem?_cons_zero, List.getElem?_cons_succ, List.set_cons_zero, List.set_cons_succ, if_true, if_false, Bool.true_eq_false, Bool.false_eq_true, Bool.not_true, Bool.not_false, ite_true, ite_false, ↓reduceIte, Nat.reduceSub, Nat.reduceAdd, big, Nat.reduceLeDiff, Nat.zero_le, decide_true, decide_false, eq_self, dPart, cut4, dListM, dList, asL, dLt, hb, xor_f, dBool, hv, hget, hl, hix, hset, hst, dIx, i0, i1, i2, i3, hmk, ownEq9 ok ok1, ownNe9 ok1 ok, he1, eqv_parts4, eqG_bl, xor_t, tripB_comm (n := n1) (n' := n)]
    cases tripB "stay" "stay" n n1 s s1 s s1 l l1 t t1 <;> rfl
  obtain ⟨z, P1, e1, pn1, hz⟩ := e_title (R := J ++ [.lst (partsD4 n s l t)]) pn
  obtain ⟨i, P2, e2, pn2, hi⟩ := e_number (R := J ++ [.lst (partsD4 n s l t)]) (lo := 1) pn (by decide)
  match a, ha with
  | 0, _ => exact key z s l t (.str z) P1 true ⟨hz, ok.s, ok.g, ok.l, ok.t⟩ (pn1.le (by omega)) rfl rfl e1
  | 1, _ => exact key n z l t (.str z) P1 true ⟨ok.n, hz, hz, ok.l, ok.t⟩ (pn1.le (by omega)) rfl rfl e1
  | 2, _ => exact key n s i t (.int i) P2 false ⟨ok.n, ok.s, ok.g, ⟨by omega, hi.2⟩, ok.t⟩ pn2 rfl rfl e2
  | 3, _ => exact key n s l i (.int i) P2 false ⟨ok.n, ok.s, ok.g, ok.l, hi⟩ pn2 rfl rfl e2
theorem e_loopS (ok : TripOk n s l t g) (pn : Pn P (k + 12)) (hJ : Clean J) {x3 x8 x9 x10 : Option D} : ∃ P' J' y3 y8 y9, loopF (.nm 3) L_stay_right_0 [.int 0, .int 1, .int 2, .int 3] (envS n s g l t x3 x8 x9 x10) (P :: J) = .ok (.nx (envS n s g l t y3 y8 y9 x10)) (P' :: (J ++ J')) ∧ Pn P' k ∧ Clean J' := by
  obtain ⟨e, S', h1, P', J', y4, y11, y12, rfl, rfl, pn', hJ'⟩ := loop_inv (p := .nm 3) (b := L_stay_right_0) (ds := [.int 0, .int 1, .int 2, .int 3]) (k := 0) (env := envS n s g l t x3 x8 x9 x10) (S := P :: J)
    (I := fun i e S => ∃ P' J' y3 y8 y9, e = envS n s g l t y3 y8 y9 x10 ∧ S = P' :: (J ++ J') ∧ Pn P' (k + 12 - 3 * i) ∧ Clean J')
    ⟨P, [], x3, x8, x9, rfl, by rw [List.append_nil], pn, Clean.nil⟩ fun j d e S hd hI => by
      obtain ⟨P1, J1, y4, y11, y12, rfl, rfl, pn1, hJ1⟩ := hI
      have hj : j < 4 := by
        have := (List.getElem?_eq_some_iff.mp hd).1
        exact this
      have hdj : d = .int (j : Int) := by
        match j, hj with
        | 0, _ => exact (Option.some.inj hd).symm
        | 1, _ => exact (Option.some.inj hd).symm
        | 2, _ => exact (Option.some.inj hd).symm
        | 3, _ => exact (Option.some.inj hd).symm
      subst hdj
      refine ⟨_, x_bind, ?_⟩
      obtain ⟨P2, o, z11, z12, e2, pn2, ho⟩ := e_itS (k := k + 12 - 3 * (0 + j + 1)) (x8 := y11) (x9 := y12) (x10 := x10) ok (pn1.le (by omega)) (hJ.app hJ1) hj
      refine ⟨_, _, .inl e2, P2, J1 ++ [o], _, _, _, rfl, by rw [List.append_assoc], pn2, hJ1.app (Clean.nil.cons ho)⟩
  exact ⟨P', J', y4, y11, y12, h1, pn'.le (by simp), hJ'⟩
theorem e_stay_right (ok0 : TripOk n s l t g) (pn : Pn P (k + 12)) (hR : Clean R) : ∃ P', F_stay_right [.loc 0, .lst (partsD n s l t g)] (P :: R) = .ok (.bl true) (P' :: R) ∧ Pn P' k := by
  have ok : TripOk n s l t s := ⟨ok0.n, ok0.s, ok0.s, ok0.l, ok0.t⟩
  have cl : Clean (P :: R) := cleanP pn hR
  obtain ⟨P', J', y4, y11, y12, h1, pn', hJ'⟩ := e_loopS (x3 := none) (x8 := none) (x9 := none) (x10 := none) ok0 pn hR
  have cl' : Clean (P' :: (R ++ J')) := cleanP pn' (hR.app hJ')
  refine ⟨P', ?_, pn'⟩
  unfold F_stay_right runG
  have hm := e_stay (S := P :: R) ok (cl.all _)
  have hst := e_run (S := P' :: (R ++ J')) ok (cl'.all _)
  have hs : ∀ S, dStrO 9 F_Trip_str [.ins 9 (tripF n s l t s)] S = .ok (.str (Txt.join " " ["stay", n, s, toString l, toString t])) S := fun S => by
    unfold dStrO
    simp only [asI, if_true, bnd_bd, e_tstr ok, bd_ok, ret_ap]
  have hj := e_join5 (S := P :: R) ok
  have hp := e_parts (S := P :: R) ok (.inr rfl : (9 : Nat) = 8 ∨ 9 = 9)
  have hr := e_repr (S := P :: R) ok
  unfold partsD at hr
  have hk := e_kinds (n := n) (s := s) (g := s) (l := l) (t := t) (S := P :: R) (.inr rfl : (9 : Nat) = 8 ∨ 9 = 9)
  have hbk : ∀ S, dEqG true (.lst [.bl true, .bl (9 == 8), .bl (9 == 8), .bl (9 == 9)]) (.lst [.bl true, .bl false, .bl false, .bl true]) S = .ok (.bl false) S := fun S => eqG_self (n := true) (S := S) (ps := [.bool true, .bool false, .bool false, .bool true]) rfl (by decide)
  have hu : ∀ (env : Env8), bindM (.tp [(.nm 4), (.nm 5), (.nm 6), (.nm 7)]) (.lst (partsD4 n s l t)) env (P :: R) = .ok ((((env.set 4 (some (.str n))).set 5 (some (.str s))).set 6 (some (.int l))).set 7 (some (.int t))) (P :: R) := fun env => by
    unfold bindM
    simp only [bindP, bindPs, asSq, asT, asL, partsD4]
  have hi1 : dStr [.int l] (P :: R) = .ok (.str (toString l)) (P :: R) := if_pos_ap (num_log (by have := ok.l; omega))
  have hi2 : dStr [.int t] (P :: R) = .ok (.str (toString t)) (P :: R) := if_pos_ap (num_log (by have := ok.t; omega))
  have hlc : ∀ (env : Env8), env.length = 11 → env[2]? = some (some (.ins 9 (tripF n s l t s))) → noEr (loopC (.nm 10) (f1 dBool (f2 (dOwn 9 kOwn nfStay F_Trip_eq) (fVar 2) (fVar 10))) (fVar 10) env [.non, .bl true, .str (Txt.join " " ["stay", n, s, toString l, toString t]), .lst (partsD n s l t g), .ins 8 (tripF n s l t s)]) (P' :: (R ++ J')) = .ok [] (P' :: (R ++ J')) := fun env hl h2 => by
    refine lc_none fun d hd => ⟨_, x_bind, ?_⟩
    have hown : dOwn 9 kOwn nfStay F_Trip_eq (.ins 9 (tripF n s l t s)) d (P' :: (R ++ J')) = .ok (.bl false) (P' :: (R ++ J')) := by
      simp only [List.mem_cons, List.not_mem_nil, or_false] at hd
      rcases hd with rfl | rfl | rfl | rfl | rfl
      · exact ownEqN9 trivial
      · exact ownEqN9 trivial
      · exact ownEqN9 trivial
      · exact ownEqN9 trivial
      · exact ownEqS9 ok ok
    have g2 : (env.set 10 (some d))[2]? = some (some (.ins 9 (tripF n s l t s))) := by rw [List.getElem?_set_ne (by decide)]; exact h2
    have g13 : (env.set 10 (some d))[10]? = some (some d) := by rw [List.getElem?_set_self (by omega)]
    simp only [x_f1, x_f2, ap_f2, x_var, g2, g13, vK_some, bd_ok, hown, dBool, ret_ap]
  unfold envS at h1
  refine (gc_ok (d := .bl true) (S' := P' :: (R ++ J')) ?_ rfl ?_).trans ?_
  · refine (x_run (by rfl)).trans ?_
    have w8 : ∀ a b c d e f g h i j k : Option D, wipe8 [a, b, c, d, e, f, g, h, i, j, k] (Pat.slots (.nm 10)) = [a, b, c, d, e, f, g, h, i, j, none] := fun _ _ _ _ _ _ _ _ _ _ _ => rfl
    simp only [ap_f2, ap_cons, ap_cons2, ap_and, ap_or, ap_not, ap_if, ap_andV, ap_andV2, ap_orV, ap_orV2, ap_notV, ap_notV2, ap_ch1, ap_ch2, ap_ch3, ap_ch4, ap_lst, ap_tup, ap_lstM, ap_sl, ap_sl2, ap_ret, ap_drop, ap_set, ap_nx, ap_asg, ap_par, ap_par3, ap_r1, ap_r2, ap_si1, ap_si2, ap_si3, ap_sf1, ap_sf2, ap_for, ap_lcE, x_var, vK_some, x_c, x_f1, x_f2, x_nil, x_cons, x_and, x_or, x_not, x_if, x_andV, x_orV, x_notV, x_chain, x_lst, x_tup, x_lstM, x_sl, x_seq, sqK_nx, sqK_rt, sqK_bk, sqK_ct, x_ret, x_retN, x_drop, x_next, x_brk, x_cnt, x_set, x_asg, x_par, x_par3, x_raise1, x_raise2, x_setI, x_setF, endK_rt, endK_nx, x_for, x_bind, bd_ok, bd_er, bd_bad, bnd_bd, ret_ap, bad_ap, ite_ap, List.map_cons, List.map_nil, List.length_cons, List.length_nil, List.cons_append, List.nil_append, List.replicate, List.getElem?_cons_zero, List.getElem?_cons_succ, List.set_cons_zero, List.set_cons_succ, if_true, if_false, Bool.true_eq_false, Bool.false_eq_true, Bool.not_true, Bool.not_false, ite_true, ite_false, ↓reduceIte, Nat.reduceSub, Nat.reduceAdd, big, Nat.reduceLeDiff, Nat.zero_le, decide_true, decide_false, eq_self, dPart, cut4, hu, hm, hp, hr, hk, hbk, eqG_str, xor_t, xor_f, hs, hi1, hi2, hj, fKw, perm4, and_self, ownNe9 ok ok, ownEq9 ok ok, tripB_self, dBool, rng4, h1, dTuple, asL, hst, x_lc, ap_lc, w8, dItems, hlc, eqG_nil]
  · rw [List.length_cons, List.take_succ_cons, List.take_left]
    exact (cleanP pn' hR).all _
  · rw [List.length_cons, List.take_succ_cons, List.take_left]
/-! the law -/
theorem e_turn (pn : Pn P (k + 36)) {p n0 x2 x3 : Option D} (hp : p = some (.loc 0)) : ∃ P' y3, L_law_0 [n0, p, x2, x3] [P] = .ok (.nx [n0, p, x2, y3]) [P'] ∧ Pn P' k := by
  subst hp
  obtain ⟨z1, P1, e1, pn1, h1⟩ := e_title (R := []) (k := k + 35) pn
  obtain ⟨z2, P2, e2, pn2, h2⟩ := e_title (R := []) (k := k + 34) pn1
  obtain ⟨i3, P3, e3, pn3, h3⟩ := e_number (R := []) (k := k + 31) (lo := 0) pn2 (by decide)
  obtain ⟨i4, P4, e4, pn4, h4⟩ := e_number (R := []) (k := k + 28) (lo := 1) pn3 (by decide)
  obtain ⟨z5, P5, e5, pn5, h5⟩ := e_title (R := []) (k := k + 27) pn4
  have ok : TripOk z1 z2 i3 i4 z5 := ⟨h1, h2, h5, h3, h4⟩
  obtain ⟨P6, e6, pn6⟩ := e_run_right (k := k + 12) ok pn5 Clean.nil
  obtain ⟨P7, e7, pn7⟩ := e_stay_right (k := k) ok pn6 Clean.nil
  refine ⟨P7, some (.lst (partsD z1 z2 i3 i4 z5)), ?_, pn7⟩
  unfold L_law_0
  unfold partsD at e6 e7 ⊢
  simp only [ap_f2, ap_cons, ap_cons2, ap_and, ap_or, ap_not, ap_if, ap_andV, ap_andV2, ap_orV, ap_orV2, ap_notV, ap_notV2, ap_ch1, ap_ch2, ap_ch3, ap_ch4, ap_lst, ap_tup, ap_lstM, ap_sl, ap_sl2, ap_ret, ap_drop, ap_set, ap_nx, ap_asg, ap_par, ap_par3, ap_r1, ap_r2, ap_si1, ap_si2, ap_si3, ap_sf1, ap_sf2, ap_for, ap_lcE, x_var, vK_some, x_c, x_f1, x_f2, x_nil, x_cons, x_and, x_or, x_not, x_if, x_andV, x_orV, x_notV, x_chain, x_lst, x_tup, x_lstM, x_sl, x_seq, sqK_nx, sqK_rt, sqK_bk, sqK_ct, x_ret, x_retN, x_drop, x_next, x_brk, x_cnt, x_set, x_asg, x_par, x_par3, x_raise1, x_raise2, x_setI, x_setF, endK_rt, endK_nx, x_for, x_bind, bd_ok, bd_er, bd_bad, bnd_bd, ret_ap, bad_ap, ite_ap, List.map_cons, List.map_nil, List.length_cons, List.length_nil, List.cons_append, List.nil_append, List.replicate, List.getElem?_cons_zero, List.getElem?_cons_succ, List.set_cons_zero, List.set_cons_succ, if_true, if_false, Bool.true_eq_false, Bool.false_eq_true, Bool.not_true, Bool.not_false, ite_true, ite_false, ↓reduceIte, Nat.reduceSub, Nat.reduceAdd, big, Nat.reduceLeDiff, Nat.zero_le, decide_true, decide_false, eq_self, e1, e2, e3, e4, e5, e6, e7, dTru]
theorem law_plain {ns : List Int} (h : ns.length ≤ 63) : ∃ S, F_law [.scr ns] [] = .ok (.bl true) S := by
  obtain ⟨P, e1, pn⟩ := e_pen h
  obtain ⟨e, S', h1, P', y2, y3, rfl, rfl, pn'⟩ := loop_inv (p := .nm 2) (b := L_law_0) (ds := [.int 0, .int 1, .int 2, .int 3, .int 4, .int 5, .int 6, .int 7, .int 8, .int 9]) (k := 0) (env := [some (.scr ns), some (.loc 0), none, none]) (S := [P])
    (I := fun i e S => ∃ P' y2 y3, e = [some (.scr ns), some (.loc 0), y2, y3] ∧ S = [P'] ∧ Pn P' (4000000 - 36 * i))
    ⟨P, none, none, rfl, rfl, pn⟩ fun j d e S hd hI => by
      obtain ⟨P1, y2, y3, rfl, rfl, pn1⟩ := hI
      have hj : j < 10 := (List.getElem?_eq_some_iff.mp hd).1
      refine ⟨_, x_bind, ?_⟩
      obtain ⟨P2, z3, e2, pn2⟩ := e_turn (k := 4000000 - 36 * (0 + j + 1)) (n0 := some (.scr ns)) (x2 := some d) (x3 := y3) (pn1.le (by omega)) rfl
      exact ⟨_, _, .inl e2, P2, _, _, rfl, rfl, pn2⟩
  have cl : Clean [P'] := cleanP pn' Clean.nil
  have okA : TripOk "p" "a" 0 1 "a" := ⟨by decide +kernel, by decide +kernel, by decide +kernel, by decide, by decide⟩
  have okB : TripOk "self" "self" 5 1000000000000 "self" := ⟨by decide +kernel, by decide +kernel, by decide +kernel, by decide, by decide⟩
  have hA := e_run (S := [P']) okA (cl.all _)
  have hB := e_stay (S := [P']) okB (cl.all _)
  have e12 : (10 : Int) ^ Int.toNat 12 = 1000000000000 := by decide
  have g12 : (0 ≤ (12 : Int) ∧ (12 : Int) ≤ 1000000 ∧ (10 : Int).natAbs < 2 ^ 64) = True := eq_true (by decide)
  have sA : dStrO 8 F_Run_str [.ins 8 (tripF "p" "a" 0 1 "a")] [P'] = .ok (.str (Txt.join " " ["run", "p", "a", toString (0 : Int), toString (1 : Int), "a"])) [P'] := by
    unfold dStrO
    simp only [asI, if_true, bnd_bd, e_rstr okA, bd_ok, ret_ap]
  have sB : dStrO 9 F_Trip_str [.ins 9 (tripF "self" "self" 5 1000000000000 "self")] [P'] = .ok (.str (Txt.join " " ["stay", "self", "self", toString (5 : Int), toString (1000000000000 : Int)])) [P'] := by
    unfold dStrO
    simp only [asI, if_true, bnd_bd, e_tstr okB, bd_ok, ret_ap]
  have jA : decide (Txt.join " " ["run", "p", "a", toString (0 : Int), toString (1 : Int), "a"] = ("run p a 0 1 a" : Str)) = true := by decide +kernel
  have jB : decide (Txt.join " " ["stay", "self", "self", toString (5 : Int), toString (1000000000000 : Int)] = ("stay self self 5 1000000000000" : Str)) = true := by decide +kernel
  refine ⟨[P'], ?_⟩
  unfold F_law
  refine (x_run (by rfl)).trans ?_
  simp only [ap_f2, ap_cons, ap_cons2, ap_and, ap_or, ap_not, ap_if, ap_andV, ap_andV2, ap_orV, ap_orV2, ap_notV, ap_notV2, ap_ch1, ap_ch2, ap_ch3, ap_ch4, ap_lst, ap_tup, ap_lstM, ap_sl, ap_sl2, ap_ret, ap_drop, ap_set, ap_nx, ap_asg, ap_par, ap_par3, ap_r1, ap_r2, ap_si1, ap_si2, ap_si3, ap_sf1, ap_sf2, ap_for, ap_lcE, x_var, vK_some, x_c, x_f1, x_f2, x_nil, x_cons, x_and, x_or, x_not, x_if, x_andV, x_orV, x_notV, x_chain, x_lst, x_tup, x_lstM, x_sl, x_seq, sqK_nx, sqK_rt, sqK_bk, sqK_ct, x_ret, x_retN, x_drop, x_next, x_brk, x_cnt, x_set, x_asg, x_par, x_par3, x_raise1, x_raise2, x_setI, x_setF, endK_rt, endK_nx, x_for, x_bind, bd_ok, bd_er, bd_bad, bnd_bd, ret_ap, bad_ap, ite_ap, List.map_cons, List.map_nil, List.length_cons, List.length_nil, List.cons_append, List.nil_append, List.replicate, List.getElem?_cons_zero, List.getElem?_cons_succ, List.set_cons_zero, List.set_cons_succ, if_true, if_false, Bool.true_eq_false, Bool.false_eq_true, Bool.not_true, Bool.not_false, ite_true, ite_false, ↓reduceIte, Nat.reduceSub, Nat.reduceAdd, big, Nat.reduceLeDiff, Nat.zero_le, decide_true, decide_false, eq_self, e1, rng10, h1, dPow, e12, g12, hA, hB, sA, sB, eqG_str, xor_f, jA, jB, dBool]
end
end Ol

namespace Ol
open PySem L2 LamX
section
variable {P : Program} {wo : World} {K : PySem.W.Frag} {mg : Str → Option Value} {base : Heap} {A : Ad} {D0 : Fd}
theorem ok_end (T : Txt P K mg A D0) : FnG P wo K mg base CX0 8 A.law D0.law ["_law_script"] (spLaw K) := law_endG (w := W8 K A) (ok_law T) rfl rfl (fun _ h => law_plain h)
end
theorem all_mk {P : Program} {w : World} {K : PySem.W.Frag} {h : Heap} {mg : Str → Option Value} {fa : Addr} (X : K.In h) (G : h.Ns mainGlobals mg) (hfa : mg "law" = some (.ref fa))
    {CBadTrip CTrip CPaused CRun CStay fis_integer fis_between fis_number fis_name fBadTrip_init fTrip_init fTrip_eq fTrip_str fRun_init fRun_str fStay_init fpen fdraw fpick ftitle fnumber fkinds fparts frun_right fstay_right flaw : Addr} {od0 an0 od1 an1 od2 an2 od3 an3 od4 an4 od5 an5 od6 an6 od7 an7 od8 an8 od9 an9 od10 an10 od11 an11 od12 an12 od13 an13 od14 an14 od15 an15 od16 an16 od17 an17 od18 an18 od19 an19 od20 an20 : Option Addr} {sl0 sl1 sl2 sl3 sl4 sl5 sl6 sl7 sl8 sl9 sl10 sl11 sl12 sl13 sl14 sl15 sl16 sl17 sl18 sl19 sl20 : Array (Option Value)} {oc0 kV0 dc0 pm0 cd0 ct0 oc1 kV1 dc1 pm1 cd1 ct1 oc2 kV2 dc2 pm2 cd2 ct2 oc3 kV3 dc3 pm3 cd3 ct3 oc4 kV4 dc4 pm4 ct4 oc5 kV5 dc5 pm5 cd5 ct5 oc6 kV6 dc6 pm6 cd6 ct6 oc7 kV7 dc7 pm7 cd7 ct7 oc8 kV8 dc8 pm8 ct8 oc9 kV9 dc9 pm9 cd9 ct9 oc10 kV10 dc10 pm10 ct10 oc11 kV11 dc11 pm11 cd11 ct11 oc12 kV12 dc12 pm12 cd12 ct12 oc13 kV13 dc13 pm13 cd13 ct13 oc14 kV14 dc14 pm14 cd14 ct14 oc15 kV15 dc15 pm15 cd15 ct15 oc16 kV16 dc16 pm16 cd16 ct16 oc17 kV17 dc17 pm17 cd17 ct17 oc18 kV18 dc18 pm18 cd18 ct18 oc19 kV19 dc19 pm19 cd19 ct19 oc20 kV20 dc20 pm20 cd20 ct20 : Value} {ca4 cc4 ca8 cc8 ca10 cc10 : Addr}
    (aCBadTrip : PySem.W.nsIn K mainGlobals "BadTrip" = some (some (.ref CBadTrip)))
    (aCTrip : PySem.W.nsIn K mainGlobals "Trip" = some (some (.ref CTrip)))
    (aCPaused : PySem.W.nsIn K mainGlobals "Paused" = some (some (.ref CPaused)))
    (aCRun : PySem.W.nsIn K mainGlobals "Run" = some (some (.ref CRun)))
    (aCStay : PySem.W.nsIn K mainGlobals "Stay" = some (some (.ref CStay)))
    (afis_integer : PySem.W.nsIn K mainGlobals "is_integer" = some (some (.ref fis_integer)))
    (lfis_integer : K.lookup fis_integer = some ⟨oc0, od0, .func (PySem.W.fnOf "is_integer" "is_integer" (defArgs s_is_integer) (defBody s_is_integer) (defScope s_is_integer) .none kV0 dc0 pm0 an0 cd0 ct0), sl0⟩)
    (cfis_integer : PySem.W.codeIn K cd0 "is_integer" = true)
    (kfis_integer : PySem.W.keepIn K (.ref fis_integer) = true)
    (afis_between : PySem.W.nsIn K mainGlobals "is_between" = some (some (.ref fis_between)))
    (lfis_between : K.lookup fis_between = some ⟨oc1, od1, .func (PySem.W.fnOf "is_between" "is_between" (defArgs s_is_between) (defBody s_is_between) (defScope s_is_between) .none kV1 dc1 pm1 an1 cd1 ct1), sl1⟩)
    (cfis_between : PySem.W.codeIn K cd1 "is_between" = true)
    (kfis_between : PySem.W.keepIn K (.ref fis_between) = true)
    (afis_number : PySem.W.nsIn K mainGlobals "is_number" = some (some (.ref fis_number)))
    (lfis_number : K.lookup fis_number = some ⟨oc2, od2, .func (PySem.W.fnOf "is_number" "is_number" (defArgs s_is_number) (defBody s_is_number) (defScope s_is_number) .none kV2 dc2 pm2 an2 cd2 ct2), sl2⟩)
    (cfis_number : PySem.W.codeIn K cd2 "is_number" = true)
    (kfis_number : PySem.W.keepIn K (.ref fis_number) = true)
    (afis_name : PySem.W.nsIn K mainGlobals "is_name" = some (some (.ref fis_name)))
    (lfis_name : K.lookup fis_name = some ⟨oc3, od3, .func (PySem.W.fnOf "is_name" "is_name" (defArgs s_is_name) (defBody s_is_name) (defScope s_is_name) .none kV3 dc3 pm3 an3 cd3 ct3), sl3⟩)
    (cfis_name : PySem.W.codeIn K cd3 "is_name" = true)
    (kfis_name : PySem.W.keepIn K (.ref fis_name) = true)
    (afBadTrip_init : PySem.W.findIn K (.ref CBadTrip) "__init__" = some (some (.ref fBadTrip_init)))
    (ifBadTrip_init : PySem.W.isFn K (.ref fBadTrip_init) = true)
    (lfBadTrip_init : K.lookup fBadTrip_init = some ⟨oc4, od4, .func (PySem.W.ksFn "__init__" "BadTrip.__init__" (defArgs s_BadTrip_init) (defBody s_BadTrip_init) (defScope s_BadTrip_init) .none kV4 dc4 pm4 an4 (.ref ca4) ct4 cc4), sl4⟩)
    (cfBadTrip_init : PySem.W.codeIn K (.ref ca4) "BadTrip.__init__" = true)
    (kfBadTrip_init : PySem.W.keepIn K (.ref fBadTrip_init) = true)
    {cl4 cy4 : Value} {cld4 cdd4 : Option Addr} {csl4 ccs4 : Array (Option Value)} {vs4 : Array Value} {fl4 : Str} {tf4 : Tok} {kd4 : ClassData}
    (efBadTrip_init : K.lookup cc4 = some ⟨cl4, cld4, .cell (some (.ref CBadTrip)), csl4⟩)
    (ofBadTrip_init : K.lookup ca4 = some ⟨cy4, cdd4, .fields vs4, ccs4⟩)
    (vfBadTrip_init : vs4[2]? = some (.str fl4 tf4))
    (pfBadTrip_init : ((P.main.file : Str) == fl4) = true)
    (tfBadTrip_init : (P.main.scope.names.lookup ("super" : Str)).isSome = false)
    (dfBadTrip_init : PySem.W.clsIn K CBadTrip = some kd4)
    (afTrip_init : PySem.W.findIn K (.ref CTrip) "__init__" = some (some (.ref fTrip_init)))
    (ifTrip_init : PySem.W.isFn K (.ref fTrip_init) = true)
    (lfTrip_init : K.lookup fTrip_init = some ⟨oc5, od5, .func (PySem.W.fnOf "__init__" "Trip.__init__" (defArgs s_Trip_init) (defBody s_Trip_init) (defScope s_Trip_init) .none kV5 dc5 pm5 an5 cd5 ct5), sl5⟩)
    (cfTrip_init : PySem.W.codeIn K cd5 "Trip.__init__" = true)
    (kfTrip_init : PySem.W.keepIn K (.ref fTrip_init) = true)
    (afTrip_eq : PySem.W.findIn K (.ref CTrip) "__eq__" = some (some (.ref fTrip_eq)))
    (ifTrip_eq : PySem.W.isFn K (.ref fTrip_eq) = true)
    (lfTrip_eq : K.lookup fTrip_eq = some ⟨oc6, od6, .func (PySem.W.fnOf "__eq__" "Trip.__eq__" (defArgs s_Trip_eq) (defBody s_Trip_eq) (defScope s_Trip_eq) .none kV6 dc6 pm6 an6 cd6 ct6), sl6⟩)
    (cfTrip_eq : PySem.W.codeIn K cd6 "Trip.__eq__" = true)
    (kfTrip_eq : PySem.W.keepIn K (.ref fTrip_eq) = true)
    (afTrip_str : PySem.W.findIn K (.ref CTrip) "__str__" = some (some (.ref fTrip_str)))
    (ifTrip_str : PySem.W.isFn K (.ref fTrip_str) = true)
    (lfTrip_str : K.lookup fTrip_str = some ⟨oc7, od7, .func (PySem.W.fnOf "__str__" "Trip.__str__" (defArgs s_Trip_str) (defBody s_Trip_str) (defScope s_Trip_str) .none kV7 dc7 pm7 an7 cd7 ct7), sl7⟩)
    (cfTrip_str : PySem.W.codeIn K cd7 "Trip.__str__" = true)
    (kfTrip_str : PySem.W.keepIn K (.ref fTrip_str) = true)
    (afRun_init : PySem.W.findIn K (.ref CRun) "__init__" = some (some (.ref fRun_init)))
    (ifRun_init : PySem.W.isFn K (.ref fRun_init) = true)
    (lfRun_init : K.lookup fRun_init = some ⟨oc8, od8, .func (PySem.W.ksFn "__init__" "Run.__init__" (defArgs s_Run_init) (defBody s_Run_init) (defScope s_Run_init) .none kV8 dc8 pm8 an8 (.ref ca8) ct8 cc8), sl8⟩)
    (cfRun_init : PySem.W.codeIn K (.ref ca8) "Run.__init__" = true)
    (kfRun_init : PySem.W.keepIn K (.ref fRun_init) = true)
    {cl8 cy8 : Value} {cld8 cdd8 : Option Addr} {csl8 ccs8 : Array (Option Value)} {vs8 : Array Value} {fl8 : Str} {tf8 : Tok} {kd8 : ClassData}
    (efRun_init : K.lookup cc8 = some ⟨cl8, cld8, .cell (some (.ref CRun)), csl8⟩)
    (ofRun_init : K.lookup ca8 = some ⟨cy8, cdd8, .fields vs8, ccs8⟩)
    (vfRun_init : vs8[2]? = some (.str fl8 tf8))
    (pfRun_init : ((P.main.file : Str) == fl8) = true)
    (tfRun_init : (P.main.scope.names.lookup ("super" : Str)).isSome = false)
    (dfRun_init : PySem.W.clsIn K CRun = some kd8)
    (afRun_str : PySem.W.findIn K (.ref CRun) "__str__" = some (some (.ref fRun_str)))
    (ifRun_str : PySem.W.isFn K (.ref fRun_str) = true)
    (lfRun_str : K.lookup fRun_str = some ⟨oc9, od9, .func (PySem.W.fnOf "__str__" "Run.__str__" (defArgs s_Run_str) (defBody s_Run_str) (defScope s_Run_str) .none kV9 dc9 pm9 an9 cd9 ct9), sl9⟩)
    (cfRun_str : PySem.W.codeIn K cd9 "Run.__str__" = true)
    (kfRun_str : PySem.W.keepIn K (.ref fRun_str) = true)
    (afStay_init : PySem.W.findIn K (.ref CStay) "__init__" = some (some (.ref fStay_init)))
    (ifStay_init : PySem.W.isFn K (.ref fStay_init) = true)
    (lfStay_init : K.lookup fStay_init = some ⟨oc10, od10, .func (PySem.W.ksFn "__init__" "Stay.__init__" (defArgs s_Stay_init) (defBody s_Stay_init) (defScope s_Stay_init) .none kV10 dc10 pm10 an10 (.ref ca10) ct10 cc10), sl10⟩)
    (cfStay_init : PySem.W.codeIn K (.ref ca10) "Stay.__init__" = true)
    (kfStay_init : PySem.W.keepIn K (.ref fStay_init) = true)
    {cl10 cy10 : Value} {cld10 cdd10 : Option Addr} {csl10 ccs10 : Array (Option Value)} {vs10 : Array Value} {fl10 : Str} {tf10 : Tok} {kd10 : ClassData}
    (efStay_init : K.lookup cc10 = some ⟨cl10, cld10, .cell (some (.ref CStay)), csl10⟩)
    (ofStay_init : K.lookup ca10 = some ⟨cy10, cdd10, .fields vs10, ccs10⟩)
    (vfStay_init : vs10[2]? = some (.str fl10 tf10))
    (pfStay_init : ((P.main.file : Str) == fl10) = true)
    (tfStay_init : (P.main.scope.names.lookup ("super" : Str)).isSome = false)
    (dfStay_init : PySem.W.clsIn K CStay = some kd10)
    (afpen : PySem.W.nsIn K mainGlobals "_law_pen" = some (some (.ref fpen)))
    (lfpen : K.lookup fpen = some ⟨oc11, od11, .func (PySem.W.fnOf "_law_pen" "_law_pen" (defArgs s_pen) (defBody s_pen) (defScope s_pen) .none kV11 dc11 pm11 an11 cd11 ct11), sl11⟩)
    (cfpen : PySem.W.codeIn K cd11 "_law_pen" = true)
    (kfpen : PySem.W.keepIn K (.ref fpen) = true)
    (afdraw : PySem.W.nsIn K mainGlobals "_law_draw" = some (some (.ref fdraw)))
    (lfdraw : K.lookup fdraw = some ⟨oc12, od12, .func (PySem.W.fnOf "_law_draw" "_law_draw" (defArgs s_draw) (defBody s_draw) (defScope s_draw) .none kV12 dc12 pm12 an12 cd12 ct12), sl12⟩)
    (cfdraw : PySem.W.codeIn K cd12 "_law_draw" = true)
    (kfdraw : PySem.W.keepIn K (.ref fdraw) = true)
    (afpick : PySem.W.nsIn K mainGlobals "_law_pick" = some (some (.ref fpick)))
    (lfpick : K.lookup fpick = some ⟨oc13, od13, .func (PySem.W.fnOf "_law_pick" "_law_pick" (defArgs s_pick) (defBody s_pick) (defScope s_pick) .none kV13 dc13 pm13 an13 cd13 ct13), sl13⟩)
    (cfpick : PySem.W.codeIn K cd13 "_law_pick" = true)
    (kfpick : PySem.W.keepIn K (.ref fpick) = true)
    (aftitle : PySem.W.nsIn K mainGlobals "_law_title" = some (some (.ref ftitle)))
    (lftitle : K.lookup ftitle = some ⟨oc14, od14, .func (PySem.W.fnOf "_law_title" "_law_title" (defArgs s_title) (defBody s_title) (defScope s_title) .none kV14 dc14 pm14 an14 cd14 ct14), sl14⟩)
    (cftitle : PySem.W.codeIn K cd14 "_law_title" = true)
    (kftitle : PySem.W.keepIn K (.ref ftitle) = true)
    (afnumber : PySem.W.nsIn K mainGlobals "_law_number" = some (some (.ref fnumber)))
    (lfnumber : K.lookup fnumber = some ⟨oc15, od15, .func (PySem.W.fnOf "_law_number" "_law_number" (defArgs s_number) (defBody s_number) (defScope s_number) .none kV15 dc15 pm15 an15 cd15 ct15), sl15⟩)
    (cfnumber : PySem.W.codeIn K cd15 "_law_number" = true)
    (kfnumber : PySem.W.keepIn K (.ref fnumber) = true)
    (afkinds : PySem.W.nsIn K mainGlobals "_law_kinds" = some (some (.ref fkinds)))
    (lfkinds : K.lookup fkinds = some ⟨oc16, od16, .func (PySem.W.fnOf "_law_kinds" "_law_kinds" (defArgs s_kinds) (defBody s_kinds) (defScope s_kinds) .none kV16 dc16 pm16 an16 cd16 ct16), sl16⟩)
    (cfkinds : PySem.W.codeIn K cd16 "_law_kinds" = true)
    (kfkinds : PySem.W.keepIn K (.ref fkinds) = true)
    (afparts : PySem.W.nsIn K mainGlobals "_law_parts" = some (some (.ref fparts)))
    (lfparts : K.lookup fparts = some ⟨oc17, od17, .func (PySem.W.fnOf "_law_parts" "_law_parts" (defArgs s_parts) (defBody s_parts) (defScope s_parts) .none kV17 dc17 pm17 an17 cd17 ct17), sl17⟩)
    (cfparts : PySem.W.codeIn K cd17 "_law_parts" = true)
    (kfparts : PySem.W.keepIn K (.ref fparts) = true)
    (afrun_right : PySem.W.nsIn K mainGlobals "_law_run_right" = some (some (.ref frun_right)))
    (lfrun_right : K.lookup frun_right = some ⟨oc18, od18, .func (PySem.W.fnOf "_law_run_right" "_law_run_right" (defArgs s_run_right) (defBody s_run_right) (defScope s_run_right) .none kV18 dc18 pm18 an18 cd18 ct18), sl18⟩)
    (cfrun_right : PySem.W.codeIn K cd18 "_law_run_right" = true)
    (kfrun_right : PySem.W.keepIn K (.ref frun_right) = true)
    (afstay_right : PySem.W.nsIn K mainGlobals "_law_stay_right" = some (some (.ref fstay_right)))
    (lfstay_right : K.lookup fstay_right = some ⟨oc19, od19, .func (PySem.W.fnOf "_law_stay_right" "_law_stay_right" (defArgs s_stay_right) (defBody s_stay_right) (defScope s_stay_right) .none kV19 dc19 pm19 an19 cd19 ct19), sl19⟩)
    (cfstay_right : PySem.W.codeIn K cd19 "_law_stay_right" = true)
    (kfstay_right : PySem.W.keepIn K (.ref fstay_right) = true)
    (aflaw : PySem.W.nsIn K mainGlobals "law" = some (some (.ref flaw)))
    (lflaw : K.lookup flaw = some ⟨oc20, od20, .func (PySem.W.fnOf "law" "law" (defArgs s_law) (defBody s_law) (defScope s_law) .none kV20 dc20 pm20 an20 cd20 ct20), sl20⟩)
    (cflaw : PySem.W.codeIn K cd20 "law" = true)
    (kflaw : PySem.W.keepIn K (.ref flaw) = true)
    {nmCBadTrip qnCBadTrip : Str} {NCBadTrip : Addr} {bsCBadTrip bmCBadTrip : List Value} {snCBadTrip : List Str} {sbCBadTrip : List Value} {abCBadTrip : Bool} {coCBadTrip : Option Bool} {ddCBadTrip : Option Addr} {k0CBadTrip k1CBadTrip k2CBadTrip k3CBadTrip k5CBadTrip : Option Value}
    (x1CBadTrip : K.lookup CBadTrip = some (excClassObj nmCBadTrip qnCBadTrip CBadTrip NCBadTrip bsCBadTrip bmCBadTrip true snCBadTrip sbCBadTrip abCBadTrip coCBadTrip ddCBadTrip k0CBadTrip k1CBadTrip k2CBadTrip k3CBadTrip k5CBadTrip "ValueError.__new__"))
    (x2CBadTrip : PySem.HandSPX.refsVE bmCBadTrip = true)
    (x3CBadTrip : PySem.W.findIn K (.ref CBadTrip) "__setattr__" = some (some (.builtin "object.__setattr__")))
    (x4CBadTrip : PySem.W.subIn K (.ref CBadTrip) (.type "BaseException") = some true)
    (x5CBadTrip : PySem.W.typeIn K (.ref CBadTrip) = some (.type "type"))
    (x6CBadTrip : PySem.W.keepIn K (.ref CBadTrip) = true)
    (x7CBadTrip : PySem.W.mroIn K CBadTrip (.ref CBadTrip) = some true)
    (x8CBadTrip : PySem.W.ks_superIn K CBadTrip CBadTrip "__init__" = some (some (.builtin "ValueError.__init__")))
    (x9CBadTrip : PySem.W.subIn K (.ref CBadTrip) (.type "ValueError") = some true)
    (y1CBadTrip : PySem.W.findIn K (.ref CBadTrip) "__getattribute__" = some (some (.builtin "BaseException.__getattribute__")))
    (y2CBadTrip : PySem.W.findIn K (.ref CBadTrip) "__getattr__" = some none)
    (y3CBadTrip : PySem.W.hasDictIn K CBadTrip = true)
    (y4CBadTrip : PySem.W.findIn K (.ref CBadTrip) "__class__" = some (some (.builtin "object.__class__")))
    (y5CBadTrip : PySem.W.specialIn K (.builtin "object.__class__") "__get__" = some (some (.builtin "getset_descriptor.__get__")))
    (y6CBadTrip : PySem.W.takesIn K (.builtin "object.__class__") = some true)
    (y7CBadTrip : PySem.W.mroIn K CBadTrip (.type "object") = some true)
    (y8CBadTrip : PySem.W.typeIn K (.ref fBadTrip_init) = some (.type "function"))
    (pgCTrip : PySem.W.plainGet K CTrip Str.empty = true)
    (hdCTrip : PySem.W.hasDictIn K CTrip = true)
    (poCTrip : PySem.W.plainOver K CTrip = true)
    (saCTrip : PySem.W.findIn K (.ref CTrip) "__setattr__" = some (some (.builtin "object.__setattr__")))
    (mkCTrip : PySem.W.makesIn K CTrip = true)
    (kcCTrip : PySem.W.keepIn K (.ref CTrip) = true)
    (icCTrip : PySem.W.findIn K (.ref CTrip) "__class__" = some (some (.builtin "object.__class__")))
    (igCTrip : PySem.W.specialIn K (.builtin "object.__class__") "__get__" = some (some (.builtin "getset_descriptor.__get__")))
    (itCTrip : PySem.W.takesIn K (.builtin "object.__class__") = some true)
    (imCTrip : PySem.W.mroIn K CTrip (.type "object") = some true)
    (sfCTrip : PySem.W.selfFirst K CTrip = true)
    (pgCPaused : PySem.W.plainGet K CPaused Str.empty = true)
    (hdCPaused : PySem.W.hasDictIn K CPaused = true)
    (poCPaused : PySem.W.plainOver K CPaused = true)
    (saCPaused : PySem.W.findIn K (.ref CPaused) "__setattr__" = some (some (.builtin "object.__setattr__")))
    (mkCPaused : PySem.W.makesIn K CPaused = true)
    (kcCPaused : PySem.W.keepIn K (.ref CPaused) = true)
    (icCPaused : PySem.W.findIn K (.ref CPaused) "__class__" = some (some (.builtin "object.__class__")))
    (igCPaused : PySem.W.specialIn K (.builtin "object.__class__") "__get__" = some (some (.builtin "getset_descriptor.__get__")))
    (itCPaused : PySem.W.takesIn K (.builtin "object.__class__") = some true)
    (imCPaused : PySem.W.mroIn K CPaused (.type "object") = some true)
    (sfCPaused : PySem.W.selfFirst K CPaused = true)
    (pgCRun : PySem.W.plainGet K CRun Str.empty = true)
    (hdCRun : PySem.W.hasDictIn K CRun = true)
    (poCRun : PySem.W.plainOver K CRun = true)
    (saCRun : PySem.W.findIn K (.ref CRun) "__setattr__" = some (some (.builtin "object.__setattr__")))
    (mkCRun : PySem.W.makesIn K CRun = true)
    (kcCRun : PySem.W.keepIn K (.ref CRun) = true)
    (icCRun : PySem.W.findIn K (.ref CRun) "__class__" = some (some (.builtin "object.__class__")))
    (igCRun : PySem.W.specialIn K (.builtin "object.__class__") "__get__" = some (some (.builtin "getset_descriptor.__get__")))
    (itCRun : PySem.W.takesIn K (.builtin "object.__class__") = some true)
    (imCRun : PySem.W.mroIn K CRun (.type "object") = some true)
    (sfCRun : PySem.W.selfFirst K CRun = true)
    (pgCStay : PySem.W.plainGet K CStay Str.empty = true)
    (hdCStay : PySem.W.hasDictIn K CStay = true)
    (poCStay : PySem.W.plainOver K CStay = true)
    (saCStay : PySem.W.findIn K (.ref CStay) "__setattr__" = some (some (.builtin "object.__setattr__")))
    (mkCStay : PySem.W.makesIn K CStay = true)
    (kcCStay : PySem.W.keepIn K (.ref CStay) = true)
    (icCStay : PySem.W.findIn K (.ref CStay) "__class__" = some (some (.builtin "object.__class__")))
    (igCStay : PySem.W.specialIn K (.builtin "object.__class__") "__get__" = some (some (.builtin "getset_descriptor.__get__")))
    (itCStay : PySem.W.takesIn K (.builtin "object.__class__") = some true)
    (imCStay : PySem.W.mroIn K CStay (.type "object") = some true)
    (sfCStay : PySem.W.selfFirst K CStay = true)
    (nfBadTrippart : PySem.W.findIn K (.ref CBadTrip) "part" = some none)
    (so1Run : PySem.W.mroIn K CRun (.ref CRun) = some true)
    (so2Run : PySem.W.ks_superIn K CRun CRun "__init__" = some (some (.ref fTrip_init)))
    (so1Stay : PySem.W.mroIn K CStay (.ref CStay) = some true)
    (so2Stay : PySem.W.ks_superIn K CStay CStay "__init__" = some (some (.ref fTrip_init)))
    (fiTrip_init : PySem.W.fnIn K fTrip_init = true)
    (msx : PySem.W.nsIn K mainGlobals "super" = some none)
    (opx : PySem.W.nsIn K cStatics "thirdparty.any" = some none)
    (naRungoal : PySem.W.findIn K (.ref CRun) "goal" = some none)
    (naRunleaves : PySem.W.findIn K (.ref CRun) "leaves" = some none)
    (naRunname : PySem.W.findIn K (.ref CRun) "name" = some none)
    (naRunstart : PySem.W.findIn K (.ref CRun) "start" = some none)
    (naRuntakes : PySem.W.findIn K (.ref CRun) "takes" = some none)
    (naStaygoal : PySem.W.findIn K (.ref CStay) "goal" = some none)
    (naStayleaves : PySem.W.findIn K (.ref CStay) "leaves" = some none)
    (naStayname : PySem.W.findIn K (.ref CStay) "name" = some none)
    (naStaystart : PySem.W.findIn K (.ref CStay) "start" = some none)
    (naStaytakes : PySem.W.findIn K (.ref CStay) "takes" = some none)
    (naTripgoal : PySem.W.findIn K (.ref CTrip) "goal" = some none)
    (naTripleaves : PySem.W.findIn K (.ref CTrip) "leaves" = some none)
    (naTripname : PySem.W.findIn K (.ref CTrip) "name" = some none)
    (naTripstart : PySem.W.findIn K (.ref CTrip) "start" = some none)
    (naTriptakes : PySem.W.findIn K (.ref CTrip) "takes" = some none)
    (ihRun_eq : PySem.W.findIn K (.ref CRun) "__eq__" = some (some (.ref fTrip_eq)))
    (ihStay_eq : PySem.W.findIn K (.ref CStay) "__eq__" = some (some (.ref fTrip_eq)))
    (ihStay_str : PySem.W.findIn K (.ref CStay) "__str__" = some (some (.ref fTrip_str)))
    {tkcnRunWORD : Tok}
    (cnRunWORD : PySem.W.findIn K (.ref CRun) "WORD" = some (some (.str "run" tkcnRunWORD)))
    (cnRunWORDg : PySem.W.specialIn K (.str "run" tkcnRunWORD) "__get__" = some none)
    {tkcnStayWORD : Tok}
    (cnStayWORD : PySem.W.findIn K (.ref CStay) "WORD" = some (some (.str "stay" tkcnStayWORD)))
    (cnStayWORDg : PySem.W.specialIn K (.str "stay" tkcnStayWORD) "__get__" = some none)
    {tkcnTripWORD : Tok}
    (cnTripWORD : PySem.W.findIn K (.ref CTrip) "WORD" = some (some (.str "trip" tkcnTripWORD)))
    (cnTripWORDg : PySem.W.specialIn K (.str "trip" tkcnTripWORD) "__get__" = some none)
    (neRun : PySem.W.findIn K (.ref CRun) "__ne__" = some (some (.builtin "object.__ne__")))
    (neStay : PySem.W.findIn K (.ref CStay) "__ne__" = some (some (.builtin "object.__ne__")))
    {tkLETTERS : Tok}
    (gLETTERS : PySem.W.nsIn K mainGlobals "LETTERS" = some (some (.str "abcdefghijklmnopqrstuvwxyz" tkLETTERS)))
    {tkMOST_NUMBER : Tok}
    (gMOST_NUMBER : PySem.W.nsIn K mainGlobals "MOST_NUMBER" = some (some (.int 1000000000000 tkMOST_NUMBER)))
    (nabs : PySem.W.nsIn K mainGlobals "abs" = some none)
    (nall : PySem.W.nsIn K mainGlobals "all" = some none)
    (nbool : PySem.W.nsIn K mainGlobals "bool" = some none)
    (nint : PySem.W.nsIn K mainGlobals "int" = some none)
    (nisinstance : PySem.W.nsIn K mainGlobals "isinstance" = some none)
    (nlen : PySem.W.nsIn K mainGlobals "len" = some none)
    (nlist : PySem.W.nsIn K mainGlobals "list" = some none)
    (nmax : PySem.W.nsIn K mainGlobals "max" = some none)
    (nrange : PySem.W.nsIn K mainGlobals "range" = some none)
    (nrepr : PySem.W.nsIn K mainGlobals "repr" = some none)
    (nstr : PySem.W.nsIn K mainGlobals "str" = some none)
    (ntuple : PySem.W.nsIn K mainGlobals "tuple" = some none)
    (xkq_tNoneType_Paused : PySem.W.kitOne K (.type "NoneType") (.ref CPaused) = some false)
    (xkq_tbool_Paused : PySem.W.kitOne K (.type "bool") (.ref CPaused) = some false)
    (xkq_tint_Paused : PySem.W.kitOne K (.type "int") (.ref CPaused) = some false)
    (xkq_tstr_Paused : PySem.W.kitOne K (.type "str") (.ref CPaused) = some false)
    (xkq_tlist_Paused : PySem.W.kitOne K (.type "list") (.ref CPaused) = some false)
    (xkq_ttuple_Paused : PySem.W.kitOne K (.type "tuple") (.ref CPaused) = some false)
    (xkq_tdict_Paused : PySem.W.kitOne K (.type "dict") (.ref CPaused) = some false)
    (xkq_Trip_Paused : PySem.W.kitOne K (.ref CTrip) (.ref CPaused) = some false)
    (xkq_Run_Paused : PySem.W.kitOne K (.ref CRun) (.ref CPaused) = some true)
    (xkq_Stay_Paused : PySem.W.kitOne K (.ref CStay) (.ref CPaused) = some false)
    (xkq_BadTrip_Paused : PySem.W.kitOne K (.ref CBadTrip) (.ref CPaused) = some false)
    (xkq_tNoneType_Run : PySem.W.kitOne K (.type "NoneType") (.ref CRun) = some false)
    (xkq_tbool_Run : PySem.W.kitOne K (.type "bool") (.ref CRun) = some false)
    (xkq_tint_Run : PySem.W.kitOne K (.type "int") (.ref CRun) = some false)
    (xkq_tstr_Run : PySem.W.kitOne K (.type "str") (.ref CRun) = some false)
    (xkq_tlist_Run : PySem.W.kitOne K (.type "list") (.ref CRun) = some false)
    (xkq_ttuple_Run : PySem.W.kitOne K (.type "tuple") (.ref CRun) = some false)
    (xkq_tdict_Run : PySem.W.kitOne K (.type "dict") (.ref CRun) = some false)
    (xkq_Trip_Run : PySem.W.kitOne K (.ref CTrip) (.ref CRun) = some false)
    (xkq_Run_Run : PySem.W.kitOne K (.ref CRun) (.ref CRun) = some true)
    (xkq_Stay_Run : PySem.W.kitOne K (.ref CStay) (.ref CRun) = some false)
    (xkq_BadTrip_Run : PySem.W.kitOne K (.ref CBadTrip) (.ref CRun) = some false)
    (xkq_tNoneType_Stay : PySem.W.kitOne K (.type "NoneType") (.ref CStay) = some false)
    (xkq_tbool_Stay : PySem.W.kitOne K (.type "bool") (.ref CStay) = some false)
    (xkq_tint_Stay : PySem.W.kitOne K (.type "int") (.ref CStay) = some false)
    (xkq_tstr_Stay : PySem.W.kitOne K (.type "str") (.ref CStay) = some false)
    (xkq_tlist_Stay : PySem.W.kitOne K (.type "list") (.ref CStay) = some false)
    (xkq_ttuple_Stay : PySem.W.kitOne K (.type "tuple") (.ref CStay) = some false)
    (xkq_tdict_Stay : PySem.W.kitOne K (.type "dict") (.ref CStay) = some false)
    (xkq_Trip_Stay : PySem.W.kitOne K (.ref CTrip) (.ref CStay) = some false)
    (xkq_Run_Stay : PySem.W.kitOne K (.ref CRun) (.ref CStay) = some false)
    (xkq_Stay_Stay : PySem.W.kitOne K (.ref CStay) (.ref CStay) = some true)
    (xkq_BadTrip_Stay : PySem.W.kitOne K (.ref CBadTrip) (.ref CStay) = some false)
    (xkq_tNoneType_Trip : PySem.W.kitOne K (.type "NoneType") (.ref CTrip) = some false)
    (xkq_tbool_Trip : PySem.W.kitOne K (.type "bool") (.ref CTrip) = some false)
    (xkq_tint_Trip : PySem.W.kitOne K (.type "int") (.ref CTrip) = some false)
    (xkq_tstr_Trip : PySem.W.kitOne K (.type "str") (.ref CTrip) = some false)
    (xkq_tlist_Trip : PySem.W.kitOne K (.type "list") (.ref CTrip) = some false)
    (xkq_ttuple_Trip : PySem.W.kitOne K (.type "tuple") (.ref CTrip) = some false)
    (xkq_tdict_Trip : PySem.W.kitOne K (.type "dict") (.ref CTrip) = some false)
    (xkq_Trip_Trip : PySem.W.kitOne K (.ref CTrip) (.ref CTrip) = some true)
    (xkq_Run_Trip : PySem.W.kitOne K (.ref CRun) (.ref CTrip) = some true)
    (xkq_Stay_Trip : PySem.W.kitOne K (.ref CStay) (.ref CTrip) = some true)
    (xkq_BadTrip_Trip : PySem.W.kitOne K (.ref CBadTrip) (.ref CTrip) = some false)
    (xkq_Trip_tbool : PySem.W.kitOne K (.ref CTrip) (.type "bool") = some false)
    (xkq_Run_tbool : PySem.W.kitOne K (.ref CRun) (.type "bool") = some false)
    (xkq_Stay_tbool : PySem.W.kitOne K (.ref CStay) (.type "bool") = some false)
    (xkq_BadTrip_tbool : PySem.W.kitOne K (.ref CBadTrip) (.type "bool") = some false)
    (xkq_Trip_tint : PySem.W.kitOne K (.ref CTrip) (.type "int") = some false)
    (xkq_Run_tint : PySem.W.kitOne K (.ref CRun) (.type "int") = some false)
    (xkq_Stay_tint : PySem.W.kitOne K (.ref CStay) (.type "int") = some false)
    (xkq_BadTrip_tint : PySem.W.kitOne K (.ref CBadTrip) (.type "int") = some false)
    (xkq_Trip_tstr : PySem.W.kitOne K (.ref CTrip) (.type "str") = some false)
    (xkq_Run_tstr : PySem.W.kitOne K (.ref CRun) (.type "str") = some false)
    (xkq_Stay_tstr : PySem.W.kitOne K (.ref CStay) (.type "str") = some false)
    (xkq_BadTrip_tstr : PySem.W.kitOne K (.ref CBadTrip) (.type "str") = some false)
    (xsb_Run_tNoneType : PySem.W.subIn K (.type "NoneType") (.ref CRun) = some false)
    (xsb_Run_tbool : PySem.W.subIn K (.type "bool") (.ref CRun) = some false)
    (xsb_Run_tint : PySem.W.subIn K (.type "int") (.ref CRun) = some false)
    (xsb_Run_tstr : PySem.W.subIn K (.type "str") (.ref CRun) = some false)
    (xsb_Run_tlist : PySem.W.subIn K (.type "list") (.ref CRun) = some false)
    (xsb_Run_ttuple : PySem.W.subIn K (.type "tuple") (.ref CRun) = some false)
    (xsb_Run_tdict : PySem.W.subIn K (.type "dict") (.ref CRun) = some false)
    (xsb_Run_Trip : PySem.W.subIn K (.ref CTrip) (.ref CRun) = some false)
    (xsb_Run_Stay : PySem.W.subIn K (.ref CStay) (.ref CRun) = some false)
    (xsb_Stay_tNoneType : PySem.W.subIn K (.type "NoneType") (.ref CStay) = some false)
    (xsb_Stay_tbool : PySem.W.subIn K (.type "bool") (.ref CStay) = some false)
    (xsb_Stay_tint : PySem.W.subIn K (.type "int") (.ref CStay) = some false)
    (xsb_Stay_tstr : PySem.W.subIn K (.type "str") (.ref CStay) = some false)
    (xsb_Stay_tlist : PySem.W.subIn K (.type "list") (.ref CStay) = some false)
    (xsb_Stay_ttuple : PySem.W.subIn K (.type "tuple") (.ref CStay) = some false)
    (xsb_Stay_tdict : PySem.W.subIn K (.type "dict") (.ref CStay) = some false)
    (xsb_Stay_Trip : PySem.W.subIn K (.ref CTrip) (.ref CStay) = some false)
    (xsb_Stay_Run : PySem.W.subIn K (.ref CRun) (.ref CStay) = some false)
    : ∃ fd : FuncData, (∀ (s : Shared) (v : Value), BindsTo s fd ⟨[v], []⟩ [("_law_script", v)]) ∧ ∀ base : Heap, K.In base → base.Ns mainGlobals mg → FnG P w K mg base CX0 8 fa fd ["_law_script"] (spLaw K) := by
  have e := hfa.symm.trans (PySem.W.mg_of X G aflaw)
  cases e
  have T : Txt P K mg ⟨CBadTrip, CTrip, CPaused, CRun, CStay, fis_integer, fis_between, fis_number, fis_name, fBadTrip_init, fTrip_init, fTrip_eq, fTrip_str, fRun_init, fRun_str, fStay_init, fpen, fdraw, fpick, ftitle, fnumber, fkinds, fparts, frun_right, fstay_right, fa⟩ ⟨PySem.W.fnOf "is_integer" "is_integer" (defArgs s_is_integer) (defBody s_is_integer) (defScope s_is_integer) .none kV0 dc0 pm0 an0 cd0 ct0, PySem.W.fnOf "is_between" "is_between" (defArgs s_is_between) (defBody s_is_between) (defScope s_is_between) .none kV1 dc1 pm1 an1 cd1 ct1, PySem.W.fnOf "is_number" "is_number" (defArgs s_is_number) (defBody s_is_number) (defScope s_is_number) .none kV2 dc2 pm2 an2 cd2 ct2, PySem.W.fnOf "is_name" "is_name" (defArgs s_is_name) (defBody s_is_name) (defScope s_is_name) .none kV3 dc3 pm3 an3 cd3 ct3, PySem.W.ksFn "__init__" "BadTrip.__init__" (defArgs s_BadTrip_init) (defBody s_BadTrip_init) (defScope s_BadTrip_init) .none kV4 dc4 pm4 an4 (.ref ca4) ct4 cc4, PySem.W.fnOf "__init__" "Trip.__init__" (defArgs s_Trip_init) (defBody s_Trip_init) (defScope s_Trip_init) .none kV5 dc5 pm5 an5 cd5 ct5, PySem.W.fnOf "__eq__" "Trip.__eq__" (defArgs s_Trip_eq) (defBody s_Trip_eq) (defScope s_Trip_eq) .none kV6 dc6 pm6 an6 cd6 ct6, PySem.W.fnOf "__str__" "Trip.__str__" (defArgs s_Trip_str) (defBody s_Trip_str) (defScope s_Trip_str) .none kV7 dc7 pm7 an7 cd7 ct7, PySem.W.ksFn "__init__" "Run.__init__" (defArgs s_Run_init) (defBody s_Run_init) (defScope s_Run_init) .none kV8 dc8 pm8 an8 (.ref ca8) ct8 cc8, PySem.W.fnOf "__str__" "Run.__str__" (defArgs s_Run_str) (defBody s_Run_str) (defScope s_Run_str) .none kV9 dc9 pm9 an9 cd9 ct9, PySem.W.ksFn "__init__" "Stay.__init__" (defArgs s_Stay_init) (defBody s_Stay_init) (defScope s_Stay_init) .none kV10 dc10 pm10 an10 (.ref ca10) ct10 cc10, PySem.W.fnOf "_law_pen" "_law_pen" (defArgs s_pen) (defBody s_pen) (defScope s_pen) .none kV11 dc11 pm11 an11 cd11 ct11, PySem.W.fnOf "_law_draw" "_law_draw" (defArgs s_draw) (defBody s_draw) (defScope s_draw) .none kV12 dc12 pm12 an12 cd12 ct12, PySem.W.fnOf "_law_pick" "_law_pick" (defArgs s_pick) (defBody s_pick) (defScope s_pick) .none kV13 dc13 pm13 an13 cd13 ct13, PySem.W.fnOf "_law_title" "_law_title" (defArgs s_title) (defBody s_title) (defScope s_title) .none kV14 dc14 pm14 an14 cd14 ct14, PySem.W.fnOf "_law_number" "_law_number" (defArgs s_number) (defBody s_number) (defScope s_number) .none kV15 dc15 pm15 an15 cd15 ct15, PySem.W.fnOf "_law_kinds" "_law_kinds" (defArgs s_kinds) (defBody s_kinds) (defScope s_kinds) .none kV16 dc16 pm16 an16 cd16 ct16, PySem.W.fnOf "_law_parts" "_law_parts" (defArgs s_parts) (defBody s_parts) (defScope s_parts) .none kV17 dc17 pm17 an17 cd17 ct17, PySem.W.fnOf "_law_run_right" "_law_run_right" (defArgs s_run_right) (defBody s_run_right) (defScope s_run_right) .none kV18 dc18 pm18 an18 cd18 ct18, PySem.W.fnOf "_law_stay_right" "_law_stay_right" (defArgs s_stay_right) (defBody s_stay_right) (defScope s_stay_right) .none kV19 dc19 pm19 an19 cd19 ct19, PySem.W.fnOf "law" "law" (defArgs s_law) (defBody s_law) (defScope s_law) .none kV20 dc20 pm20 an20 cd20 ct20⟩ := {
    m_is_integer := PySem.W.mg_of X G afis_integer,
    f_is_integer := fun_mk (st := s_is_integer) lfis_integer cfis_integer kfis_integer,
    b_is_integer := (fun_mk (st := s_is_integer) lfis_integer cfis_integer kfis_integer).binds (ps := ["value"]) fun _ _ _ _ _ _ us hl => match us, hl with | [_], _ => rfl,
    m_is_between := PySem.W.mg_of X G afis_between,
    f_is_between := fun_mk (st := s_is_between) lfis_between cfis_between kfis_between,
    b_is_between := (fun_mk (st := s_is_between) lfis_between cfis_between kfis_between).binds (ps := ["value", "low", "high"]) fun _ _ _ _ _ _ us hl => match us, hl with | [_, _, _], _ => rfl,
    m_is_number := PySem.W.mg_of X G afis_number,
    f_is_number := fun_mk (st := s_is_number) lfis_number cfis_number kfis_number,
    b_is_number := (fun_mk (st := s_is_number) lfis_number cfis_number kfis_number).binds (ps := ["value"]) fun _ _ _ _ _ _ us hl => match us, hl with | [_], _ => rfl,
    m_is_name := PySem.W.mg_of X G afis_name,
    f_is_name := fun_mk (st := s_is_name) lfis_name cfis_name kfis_name,
    b_is_name := (fun_mk (st := s_is_name) lfis_name cfis_name kfis_name).binds (ps := ["value"]) fun _ _ _ _ _ _ us hl => match us, hl with | [_], _ => rfl,
    f_BadTrip_init := ⟨⟨_, _, _, _, _, _, _, _, _, _, rfl, lfBadTrip_init, cfBadTrip_init, ⟨_, _, _, efBadTrip_init⟩, _, _, _, _, _, _, ofBadTrip_init, vfBadTrip_init, pfBadTrip_init⟩, tfBadTrip_init, ⟨_, dfBadTrip_init⟩, kfBadTrip_init⟩,
    b_BadTrip_init := FunS.binds (D := CBadTrip) (P := P) (st := s_BadTrip_init) ⟨⟨_, _, _, _, _, _, _, _, _, _, rfl, lfBadTrip_init, cfBadTrip_init, ⟨_, _, _, efBadTrip_init⟩, _, _, _, _, _, _, ofBadTrip_init, vfBadTrip_init, pfBadTrip_init⟩, tfBadTrip_init, ⟨_, dfBadTrip_init⟩, kfBadTrip_init⟩ (ps := ["self", "part"]) fun _ _ _ _ _ _ _ us hl => match us, hl with | [_, _], _ => rfl,
    f_Trip_init := fun_mk (st := s_Trip_init) lfTrip_init cfTrip_init kfTrip_init,
    b_Trip_init := (fun_mk (st := s_Trip_init) lfTrip_init cfTrip_init kfTrip_init).binds (ps := ["self", "name", "start", "leaves", "takes", "goal"]) fun _ _ _ _ _ _ us hl => match us, hl with | [_, _, _, _, _, _], _ => rfl,
    f_Trip_eq := fun_mk (st := s_Trip_eq) lfTrip_eq cfTrip_eq kfTrip_eq,
    b_Trip_eq := (fun_mk (st := s_Trip_eq) lfTrip_eq cfTrip_eq kfTrip_eq).binds (ps := ["self", "other"]) fun _ _ _ _ _ _ us hl => match us, hl with | [_, _], _ => rfl,
    f_Trip_str := fun_mk (st := s_Trip_str) lfTrip_str cfTrip_str kfTrip_str,
    b_Trip_str := (fun_mk (st := s_Trip_str) lfTrip_str cfTrip_str kfTrip_str).binds (ps := ["self"]) fun _ _ _ _ _ _ us hl => match us, hl with | [_], _ => rfl,
    f_Run_init := ⟨⟨_, _, _, _, _, _, _, _, _, _, rfl, lfRun_init, cfRun_init, ⟨_, _, _, efRun_init⟩, _, _, _, _, _, _, ofRun_init, vfRun_init, pfRun_init⟩, tfRun_init, ⟨_, dfRun_init⟩, kfRun_init⟩,
    b_Run_init := FunS.binds (D := CRun) (P := P) (st := s_Run_init) ⟨⟨_, _, _, _, _, _, _, _, _, _, rfl, lfRun_init, cfRun_init, ⟨_, _, _, efRun_init⟩, _, _, _, _, _, _, ofRun_init, vfRun_init, pfRun_init⟩, tfRun_init, ⟨_, dfRun_init⟩, kfRun_init⟩ (ps := ["self", "name", "start", "leaves", "takes", "goal"]) fun _ _ _ _ _ _ _ us hl => match us, hl with | [_, _, _, _, _, _], _ => rfl,
    f_Run_str := fun_mk (st := s_Run_str) lfRun_str cfRun_str kfRun_str,
    b_Run_str := (fun_mk (st := s_Run_str) lfRun_str cfRun_str kfRun_str).binds (ps := ["self"]) fun _ _ _ _ _ _ us hl => match us, hl with | [_], _ => rfl,
    f_Stay_init := ⟨⟨_, _, _, _, _, _, _, _, _, _, rfl, lfStay_init, cfStay_init, ⟨_, _, _, efStay_init⟩, _, _, _, _, _, _, ofStay_init, vfStay_init, pfStay_init⟩, tfStay_init, ⟨_, dfStay_init⟩, kfStay_init⟩,
    b_Stay_init := FunS.binds (D := CStay) (P := P) (st := s_Stay_init) ⟨⟨_, _, _, _, _, _, _, _, _, _, rfl, lfStay_init, cfStay_init, ⟨_, _, _, efStay_init⟩, _, _, _, _, _, _, ofStay_init, vfStay_init, pfStay_init⟩, tfStay_init, ⟨_, dfStay_init⟩, kfStay_init⟩ (ps := ["self", "name", "place", "leaves", "takes"]) fun _ _ _ _ _ _ _ us hl => match us, hl with | [_, _, _, _, _], _ => rfl,
    m_pen := PySem.W.mg_of X G afpen,
    f_pen := fun_mk (st := s_pen) lfpen cfpen kfpen,
    b_pen := (fun_mk (st := s_pen) lfpen cfpen kfpen).binds (ps := ["_law_script"]) fun _ _ _ _ _ _ us hl => match us, hl with | [_], _ => rfl,
    m_draw := PySem.W.mg_of X G afdraw,
    f_draw := fun_mk (st := s_draw) lfdraw cfdraw kfdraw,
    b_draw := (fun_mk (st := s_draw) lfdraw cfdraw kfdraw).binds (ps := ["_law_pen_here", "_law_many"]) fun _ _ _ _ _ _ us hl => match us, hl with | [_, _], _ => rfl,
    m_pick := PySem.W.mg_of X G afpick,
    f_pick := fun_mk (st := s_pick) lfpick cfpick kfpick,
    b_pick := (fun_mk (st := s_pick) lfpick cfpick kfpick).binds (ps := ["_law_pen_here", "_law_some"]) fun _ _ _ _ _ _ us hl => match us, hl with | [_, _], _ => rfl,
    m_title := PySem.W.mg_of X G aftitle,
    f_title := fun_mk (st := s_title) lftitle cftitle kftitle,
    b_title := (fun_mk (st := s_title) lftitle cftitle kftitle).binds (ps := ["_law_pen_here"]) fun _ _ _ _ _ _ us hl => match us, hl with | [_], _ => rfl,
    m_number := PySem.W.mg_of X G afnumber,
    f_number := fun_mk (st := s_number) lfnumber cfnumber kfnumber,
    b_number := (fun_mk (st := s_number) lfnumber cfnumber kfnumber).binds (ps := ["_law_pen_here", "_law_least"]) fun _ _ _ _ _ _ us hl => match us, hl with | [_, _], _ => rfl,
    m_kinds := PySem.W.mg_of X G afkinds,
    f_kinds := fun_mk (st := s_kinds) lfkinds cfkinds kfkinds,
    b_kinds := (fun_mk (st := s_kinds) lfkinds cfkinds kfkinds).binds (ps := ["_law_made"]) fun _ _ _ _ _ _ us hl => match us, hl with | [_], _ => rfl,
    m_parts := PySem.W.mg_of X G afparts,
    f_parts := fun_mk (st := s_parts) lfparts cfparts kfparts,
    b_parts := (fun_mk (st := s_parts) lfparts cfparts kfparts).binds (ps := ["_law_made"]) fun _ _ _ _ _ _ us hl => match us, hl with | [_], _ => rfl,
    m_run_right := PySem.W.mg_of X G afrun_right,
    f_run_right := fun_mk (st := s_run_right) lfrun_right cfrun_right kfrun_right,
    b_run_right := (fun_mk (st := s_run_right) lfrun_right cfrun_right kfrun_right).binds (ps := ["_law_pen_here", "_law_parts_here"]) fun _ _ _ _ _ _ us hl => match us, hl with | [_, _], _ => rfl,
    m_stay_right := PySem.W.mg_of X G afstay_right,
    f_stay_right := fun_mk (st := s_stay_right) lfstay_right cfstay_right kfstay_right,
    b_stay_right := (fun_mk (st := s_stay_right) lfstay_right cfstay_right kfstay_right).binds (ps := ["_law_pen_here", "_law_parts_here"]) fun _ _ _ _ _ _ us hl => match us, hl with | [_, _], _ => rfl,
    m_law := PySem.W.mg_of X G aflaw,
    f_law := fun_mk (st := s_law) lflaw cflaw kflaw,
    b_law := (fun_mk (st := s_law) lflaw cflaw kflaw).binds (ps := ["_law_script"]) fun _ _ _ _ _ _ us hl => match us, hl with | [_], _ => rfl,
    m_BadTrip := PySem.W.mg_of X G aCBadTrip,
    m_Trip := PySem.W.mg_of X G aCTrip,
    cl_Trip := ⟨pgCTrip, hdCTrip, poCTrip, saCTrip⟩,
    mk_Trip := ⟨mkCTrip, afTrip_init, ifTrip_init, kcCTrip⟩,
    m_Paused := PySem.W.mg_of X G aCPaused,
    cl_Paused := ⟨pgCPaused, hdCPaused, poCPaused, saCPaused⟩,
    m_Run := PySem.W.mg_of X G aCRun,
    cl_Run := ⟨pgCRun, hdCRun, poCRun, saCRun⟩,
    mk_Run := ⟨mkCRun, afRun_init, ifRun_init, kcCRun⟩,
    m_Stay := PySem.W.mg_of X G aCStay,
    cl_Stay := ⟨pgCStay, hdCStay, poCStay, saCStay⟩,
    mk_Stay := ⟨mkCStay, afStay_init, ifStay_init, kcCStay⟩,
    na_Run_goal := naRungoal,
    na_Run_leaves := naRunleaves,
    na_Run_name := naRunname,
    na_Run_start := naRunstart,
    na_Run_takes := naRuntakes,
    na_Stay_goal := naStaygoal,
    na_Stay_leaves := naStayleaves,
    na_Stay_name := naStayname,
    na_Stay_start := naStaystart,
    na_Stay_takes := naStaytakes,
    na_Trip_goal := naTripgoal,
    na_Trip_leaves := naTripleaves,
    na_Trip_name := naTripname,
    na_Trip_start := naTripstart,
    na_Trip_takes := naTriptakes,
    me_Trip_eq := ⟨afTrip_eq, ifTrip_eq, kfTrip_eq⟩,
    me_Trip_str := ⟨afTrip_str, ifTrip_str, kfTrip_str⟩,
    me_Run_str := ⟨afRun_str, ifRun_str, kfRun_str⟩,
    me_Run_eq := ⟨ihRun_eq, ifTrip_eq, kfTrip_eq⟩,
    me_Stay_eq := ⟨ihStay_eq, ifTrip_eq, kfTrip_eq⟩,
    me_Stay_str := ⟨ihStay_str, ifTrip_str, kfTrip_str⟩,
    co_Run_Eq := ⟨ihRun_eq, ifTrip_eq⟩,
    co_Stay_Eq := ⟨ihStay_eq, ifTrip_eq⟩,
    ne_Run := ⟨ihRun_eq, ifTrip_eq, neRun, imCRun⟩,
    ne_Stay := ⟨ihStay_eq, ifTrip_eq, neStay, imCStay⟩,
    cn_Run_WORD := ⟨_, cnRunWORD, ⟨_, rfl⟩, cnRunWORDg, by decide +kernel⟩,
    cn_Stay_WORD := ⟨_, cnStayWORD, ⟨_, rfl⟩, cnStayWORDg, by decide +kernel⟩,
    cn_Trip_WORD := ⟨_, cnTripWORD, ⟨_, rfl⟩, cnTripWORDg, by decide +kernel⟩,
    is_Trip := ⟨⟨pgCTrip, hdCTrip, poCTrip, saCTrip⟩, icCTrip, igCTrip, itCTrip, imCTrip⟩,
    is_Paused := ⟨⟨pgCPaused, hdCPaused, poCPaused, saCPaused⟩, icCPaused, igCPaused, itCPaused, imCPaused⟩,
    is_Run := ⟨⟨pgCRun, hdCRun, poCRun, saCRun⟩, icCRun, igCRun, itCRun, imCRun⟩,
    is_Stay := ⟨⟨pgCStay, hdCStay, poCStay, saCStay⟩, icCStay, igCStay, itCStay, imCStay⟩,
    er_BadTrip := ⟨⟨⟨⟨_, _, _, _, _, _, _, _, _, _, _, _, _, _, _, x1CBadTrip, x2CBadTrip⟩, x3CBadTrip, x4CBadTrip, x5CBadTrip, x6CBadTrip⟩, x7CBadTrip, x8CBadTrip, x9CBadTrip⟩, ⟨y1CBadTrip, y2CBadTrip, x4CBadTrip, y3CBadTrip⟩, ⟨y1CBadTrip, y2CBadTrip, x4CBadTrip, y3CBadTrip, y4CBadTrip, y5CBadTrip, y6CBadTrip, y7CBadTrip⟩, afBadTrip_init, y8CBadTrip⟩,
    nf_BadTrip_part := nfBadTrippart,
    so_Run := ⟨so1Run, so2Run⟩,
    so_Stay := ⟨so1Stay, so2Stay⟩,
    fi_Trip_init := fiTrip_init,
    ff_Trip_init := ifTrip_init,
    ms := PySem.W.mg_none_of X G msx,
    op := opx,
    g_LETTERS := ⟨_, PySem.W.mg_of X G gLETTERS⟩,
    g_MOST_NUMBER := ⟨_, PySem.W.mg_of X G gMOST_NUMBER⟩,
    n_abs := PySem.W.mg_none_of X G nabs,
    n_all := PySem.W.mg_none_of X G nall,
    n_bool := PySem.W.mg_none_of X G nbool,
    n_int := PySem.W.mg_none_of X G nint,
    n_isinstance := PySem.W.mg_none_of X G nisinstance,
    n_len := PySem.W.mg_none_of X G nlen,
    n_list := PySem.W.mg_none_of X G nlist,
    n_max := PySem.W.mg_none_of X G nmax,
    n_range := PySem.W.mg_none_of X G nrange,
    n_repr := PySem.W.mg_none_of X G nrepr,
    n_str := PySem.W.mg_none_of X G nstr,
    n_tuple := PySem.W.mg_none_of X G ntuple,
    kq_tNoneType_Paused := xkq_tNoneType_Paused,
    kq_tbool_Paused := xkq_tbool_Paused,
    kq_tint_Paused := xkq_tint_Paused,
    kq_tstr_Paused := xkq_tstr_Paused,
    kq_tlist_Paused := xkq_tlist_Paused,
    kq_ttuple_Paused := xkq_ttuple_Paused,
    kq_tdict_Paused := xkq_tdict_Paused,
    kq_Trip_Paused := xkq_Trip_Paused,
    kq_Run_Paused := xkq_Run_Paused,
    kq_Stay_Paused := xkq_Stay_Paused,
    kq_BadTrip_Paused := xkq_BadTrip_Paused,
    kq_tNoneType_Run := xkq_tNoneType_Run,
    kq_tbool_Run := xkq_tbool_Run,
    kq_tint_Run := xkq_tint_Run,
    kq_tstr_Run := xkq_tstr_Run,
    kq_tlist_Run := xkq_tlist_Run,
    kq_ttuple_Run := xkq_ttuple_Run,
    kq_tdict_Run := xkq_tdict_Run,
    kq_Trip_Run := xkq_Trip_Run,
    kq_Run_Run := xkq_Run_Run,
    kq_Stay_Run := xkq_Stay_Run,
    kq_BadTrip_Run := xkq_BadTrip_Run,
    kq_tNoneType_Stay := xkq_tNoneType_Stay,
    kq_tbool_Stay := xkq_tbool_Stay,
    kq_tint_Stay := xkq_tint_Stay,
    kq_tstr_Stay := xkq_tstr_Stay,
    kq_tlist_Stay := xkq_tlist_Stay,
    kq_ttuple_Stay := xkq_ttuple_Stay,
    kq_tdict_Stay := xkq_tdict_Stay,
    kq_Trip_Stay := xkq_Trip_Stay,
    kq_Run_Stay := xkq_Run_Stay,
    kq_Stay_Stay := xkq_Stay_Stay,
    kq_BadTrip_Stay := xkq_BadTrip_Stay,
    kq_tNoneType_Trip := xkq_tNoneType_Trip,
    kq_tbool_Trip := xkq_tbool_Trip,
    kq_tint_Trip := xkq_tint_Trip,
    kq_tstr_Trip := xkq_tstr_Trip,
    kq_tlist_Trip := xkq_tlist_Trip,
    kq_ttuple_Trip := xkq_ttuple_Trip,
    kq_tdict_Trip := xkq_tdict_Trip,
    kq_Trip_Trip := xkq_Trip_Trip,
    kq_Run_Trip := xkq_Run_Trip,
    kq_Stay_Trip := xkq_Stay_Trip,
    kq_BadTrip_Trip := xkq_BadTrip_Trip,
    kq_Trip_tbool := xkq_Trip_tbool,
    kq_Run_tbool := xkq_Run_tbool,
    kq_Stay_tbool := xkq_Stay_tbool,
    kq_BadTrip_tbool := xkq_BadTrip_tbool,
    kq_Trip_tint := xkq_Trip_tint,
    kq_Run_tint := xkq_Run_tint,
    kq_Stay_tint := xkq_Stay_tint,
    kq_BadTrip_tint := xkq_BadTrip_tint,
    kq_Trip_tstr := xkq_Trip_tstr,
    kq_Run_tstr := xkq_Run_tstr,
    kq_Stay_tstr := xkq_Stay_tstr,
    kq_BadTrip_tstr := xkq_BadTrip_tstr,
    sb_Run_tNoneType := xsb_Run_tNoneType,
    sb_Run_tbool := xsb_Run_tbool,
    sb_Run_tint := xsb_Run_tint,
    sb_Run_tstr := xsb_Run_tstr,
    sb_Run_tlist := xsb_Run_tlist,
    sb_Run_ttuple := xsb_Run_ttuple,
    sb_Run_tdict := xsb_Run_tdict,
    sb_Run_Trip := xsb_Run_Trip,
    sb_Run_Stay := xsb_Run_Stay,
    sb_Stay_tNoneType := xsb_Stay_tNoneType,
    sb_Stay_tbool := xsb_Stay_tbool,
    sb_Stay_tint := xsb_Stay_tint,
    sb_Stay_tstr := xsb_Stay_tstr,
    sb_Stay_tlist := xsb_Stay_tlist,
    sb_Stay_ttuple := xsb_Stay_ttuple,
    sb_Stay_tdict := xsb_Stay_tdict,
    sb_Stay_Trip := xsb_Stay_Trip,
    sb_Stay_Run := xsb_Stay_Run }
  exact ⟨PySem.W.fnOf "law" "law" (defArgs s_law) (defBody s_law) (defScope s_law) .none kV20 dc20 pm20 an20 cd20 ct20, fun s v => .of_eq rfl, fun base _ _ => ok_end T⟩
theorem walk {l : PySem.W.OpenLaw} {q : Program} {loose : List Str} {XP : (Str → Option Value) → Heap → Prop} {YP : World → Heap → Prop} {d : DefRec} {K : Params → PySem.W.Frag} (hn : l.most = some 63) (hdf : d.params.defaults = [])
    (hY : ∀ (w : World) (h : Heap), YP w h → (K w.params).In h)
    (F : ∀ (w : World) (mg : Str → Option Value) (fa : Addr) (h : Heap), (K w.params).In h → h.Ns mainGlobals mg → mg d.name = some (.ref fa) →
      ∃ fd : FuncData, (∀ (s : Shared) (u : Value), BindsTo s fd ⟨[u], []⟩ [("_law_script", u)]) ∧ ∀ base : Heap, (K w.params).In base → base.Ns mainGlobals mg → FnG l.prog w (K w.params) mg base CX0 8 fa fd ["_law_script"] (spLaw (K w.params))) :
    PySem.W.WalkO q loose XP YP l.row.toRowW d [] (fun f vs => PySem.call f vs) :=
  walk_ofG (n := 63) (k := 8) (x := "_law_script") (CX := fun _ => CX0) (sp := fun w => spLaw (K w.params)) hn (by decide) hdf ⟨rfl, by decide, by decide⟩ hY F (fun _ _ a ns hl _ hS => ⟨a, ns, rfl, hS, hl, fun _ => rfl⟩) fun _ _ _ _ _ z => z
end Ol
open PySem PySem.W PyProof.Rows in
set_option maxRecDepth 100000 in
set_option maxHeartbeats 0 in
theorem PySem.Challenge.cw_onelongturn_k12_trips_made_holds : PySem.Challenge.rw_onelongturn_k12_trips_made.Holds := by
  w_on; o_law; k_head; (case hw => w_witness2)
  k_fill
  refine Ol.walk (l := PySem.Challenge.rw_onelongturn_k12_trips_made) rfl rfl (fun w h Y => PySem.W.kIn_of Y) ?F
  case F =>
    intro w mg fa h KX G hmg
    refine' Ol.all_mk KX G hmg ?aCBadTrip ?aCTrip ?aCPaused ?aCRun ?aCStay ?afis_integer ?lfis_integer ?cfis_integer ?kfis_integer ?afis_between ?lfis_between ?cfis_between ?kfis_between ?afis_number ?lfis_number ?cfis_number ?kfis_number ?afis_name ?lfis_name ?cfis_name ?kfis_name ?afBadTrip_init ?ifBadTrip_init ?lfBadTrip_init ?cfBadTrip_init ?kfBadTrip_init ?efBadTrip_init ?ofBadTrip_init ?vfBadTrip_init ?pfBadTrip_init ?tfBadTrip_init ?dfBadTrip_init ?afTrip_init ?ifTrip_init ?lfTrip_init ?cfTrip_init ?kfTrip_init ?afTrip_eq ?ifTrip_eq ?lfTrip_eq ?cfTrip_eq ?kfTrip_eq ?afTrip_str ?ifTrip_str ?lfTrip_str ?cfTrip_str ?kfTrip_str ?afRun_init ?ifRun_init ?lfRun_init ?cfRun_init ?kfRun_init ?efRun_init ?ofRun_init ?vfRun_init ?pfRun_init ?tfRun_init ?dfRun_init ?afRun_str ?ifRun_str ?lfRun_str ?cfRun_str ?kfRun_str ?afStay_init ?ifStay_init ?lfStay_init ?cfStay_init ?kfStay_init ?efStay_init ?ofStay_init ?vfStay_init ?pfStay_init ?tfStay_init ?dfStay_init ?afpen ?lfpen ?cfpen ?kfpen ?afdraw ?lfdraw ?cfdraw ?kfdraw ?afpick ?lfpick ?cfpick ?kfpick ?aftitle ?lftitle ?cftitle ?kftitle ?afnumber ?lfnumber ?cfnumber ?kfnumber ?afkinds ?lfkinds ?cfkinds ?kfkinds ?afparts ?lfparts ?cfparts ?kfparts ?afrun_right ?lfrun_right ?cfrun_right ?kfrun_right ?afstay_right ?lfstay_right ?cfstay_right ?kfstay_right ?aflaw ?lflaw ?cflaw ?kflaw ?x1CBadTrip ?x2CBadTrip ?x3CBadTrip ?x4CBadTrip ?x5CBadTrip ?x6CBadTrip ?x7CBadTrip ?x8CBadTrip ?x9CBadTrip ?y1CBadTrip ?y2CBadTrip ?y3CBadTrip ?y4CBadTrip ?y5CBadTrip ?y6CBadTrip ?y7CBadTrip ?y8CBadTrip ?pgCTrip ?hdCTrip ?poCTrip ?saCTrip ?mkCTrip ?kcCTrip ?icCTrip ?igCTrip ?itCTrip ?imCTrip ?sfCTrip ?pgCPaused ?hdCPaused ?poCPaused ?saCPaused ?mkCPaused ?kcCPaused ?icCPaused ?igCPaused ?itCPaused ?imCPaused ?sfCPaused ?pgCRun ?hdCRun ?poCRun ?saCRun ?mkCRun ?kcCRun ?icCRun ?igCRun ?itCRun ?imCRun ?sfCRun ?pgCStay ?hdCStay ?poCStay ?saCStay ?mkCStay ?kcCStay ?icCStay ?igCStay ?itCStay ?imCStay ?sfCStay ?nfBadTrippart ?so1Run ?so2Run ?so1Stay ?so2Stay ?fiTrip_init ?msx ?opx ?naRungoal ?naRunleaves ?naRunname ?naRunstart ?naRuntakes ?naStaygoal ?naStayleaves ?naStayname ?naStaystart ?naStaytakes ?naTripgoal ?naTripleaves ?naTripname ?naTripstart ?naTriptakes ?ihRun_eq ?ihStay_eq ?ihStay_str ?cnRunWORD ?cnRunWORDg ?cnStayWORD ?cnStayWORDg ?cnTripWORD ?cnTripWORDg ?neRun ?neStay ?gLETTERS ?gMOST_NUMBER ?nabs ?nall ?nbool ?nint ?nisinstance ?nlen ?nlist ?nmax ?nrange ?nrepr ?nstr ?ntuple ?xkq_tNoneType_Paused ?xkq_tbool_Paused ?xkq_tint_Paused ?xkq_tstr_Paused ?xkq_tlist_Paused ?xkq_ttuple_Paused ?xkq_tdict_Paused ?xkq_Trip_Paused ?xkq_Run_Paused ?xkq_Stay_Paused ?xkq_BadTrip_Paused ?xkq_tNoneType_Run ?xkq_tbool_Run ?xkq_tint_Run ?xkq_tstr_Run ?xkq_tlist_Run ?xkq_ttuple_Run ?xkq_tdict_Run ?xkq_Trip_Run ?xkq_Run_Run ?xkq_Stay_Run ?xkq_BadTrip_Run ?xkq_tNoneType_Stay ?xkq_tbool_Stay ?xkq_tint_Stay ?xkq_tstr_Stay ?xkq_tlist_Stay ?xkq_ttuple_Stay ?xkq_tdict_Stay ?xkq_Trip_Stay ?xkq_Run_Stay ?xkq_Stay_Stay ?xkq_BadTrip_Stay ?xkq_tNoneType_Trip ?xkq_tbool_Trip ?xkq_tint_Trip ?xkq_tstr_Trip ?xkq_tlist_Trip ?xkq_ttuple_Trip ?xkq_tdict_Trip ?xkq_Trip_Trip ?xkq_Run_Trip ?xkq_Stay_Trip ?xkq_BadTrip_Trip ?xkq_Trip_tbool ?xkq_Run_tbool ?xkq_Stay_tbool ?xkq_BadTrip_tbool ?xkq_Trip_tint ?xkq_Run_tint ?xkq_Stay_tint ?xkq_BadTrip_tint ?xkq_Trip_tstr ?xkq_Run_tstr ?xkq_Stay_tstr ?xkq_BadTrip_tstr ?xsb_Run_tNoneType ?xsb_Run_tbool ?xsb_Run_tint ?xsb_Run_tstr ?xsb_Run_tlist ?xsb_Run_ttuple ?xsb_Run_tdict ?xsb_Run_Trip ?xsb_Run_Stay ?xsb_Stay_tNoneType ?xsb_Stay_tbool ?xsb_Stay_tint ?xsb_Stay_tstr ?xsb_Stay_tlist ?xsb_Stay_ttuple ?xsb_Stay_tdict ?xsb_Stay_Trip ?xsb_Stay_Run
    (case aCBadTrip => k_is)
    (case aCTrip => k_is)
    (case aCPaused => k_is)
    (case aCRun => k_is)
    (case aCStay => k_is)
    (case afis_integer => k_is)
    (case lfis_integer => k_is)
    (case cfis_integer => k_is)
    (case kfis_integer => k_is)
    (case afis_between => k_is)
    (case lfis_between => k_is)
    (case cfis_between => k_is)
    (case kfis_between => k_is)
    (case afis_number => k_is)
    (case lfis_number => k_is)
    (case cfis_number => k_is)
    (case kfis_number => k_is)
    (case afis_name => k_is)
    (case lfis_name => k_is)
    (case cfis_name => k_is)
    (case kfis_name => k_is)
    (case afBadTrip_init => k_is)
    (case ifBadTrip_init => k_is)
    (case lfBadTrip_init => k_is)
    (case cfBadTrip_init => k_is)
    (case kfBadTrip_init => k_is)
    (case efBadTrip_init => k_is)
    (case ofBadTrip_init => k_is)
    (case vfBadTrip_init => exact rfl)
    (case pfBadTrip_init => first | exact rfl | decide +kernel)
    (case tfBadTrip_init => first | exact rfl | decide +kernel)
    (case dfBadTrip_init => first | k_is | exact rfl)
    (case afTrip_init => k_is)
    (case ifTrip_init => k_is)
    (case lfTrip_init => k_is)
    (case cfTrip_init => k_is)
    (case kfTrip_init => k_is)
    (case afTrip_eq => k_is)
    (case ifTrip_eq => k_is)
    (case lfTrip_eq => k_is)
    (case cfTrip_eq => k_is)
    (case kfTrip_eq => k_is)
    (case afTrip_str => k_is)
    (case ifTrip_str => k_is)
    (case lfTrip_str => k_is)
    (case cfTrip_str => k_is)
    (case kfTrip_str => k_is)
    (case afRun_init => k_is)
    (case ifRun_init => k_is)
    (case lfRun_init => k_is)
    (case cfRun_init => k_is)
    (case kfRun_init => k_is)
    (case efRun_init => k_is)
    (case ofRun_init => k_is)
    (case vfRun_init => exact rfl)
    (case pfRun_init => first | exact rfl | decide +kernel)
    (case tfRun_init => first | exact rfl | decide +kernel)
    (case dfRun_init => first | k_is | exact rfl)
    (case afRun_str => k_is)
    (case ifRun_str => k_is)
    (case lfRun_str => k_is)
    (case cfRun_str => k_is)
    (case kfRun_str => k_is)
    (case afStay_init => k_is)
    (case ifStay_init => k_is)
    (case lfStay_init => k_is)
    (case cfStay_init => k_is)
    (case kfStay_init => k_is)
    (case efStay_init => k_is)
    (case ofStay_init => k_is)
    (case vfStay_init => exact rfl)
    (case pfStay_init => first | exact rfl | decide +kernel)
    (case tfStay_init => first | exact rfl | decide +kernel)
    (case dfStay_init => first | k_is | exact rfl)
    (case afpen => k_is)
    (case lfpen => k_is)
    (case cfpen => k_is)
    (case kfpen => k_is)
    (case afdraw => k_is)
    (case lfdraw => k_is)
    (case cfdraw => k_is)
    (case kfdraw => k_is)
    (case afpick => k_is)
    (case lfpick => k_is)
    (case cfpick => k_is)
    (case kfpick => k_is)
    (case aftitle => k_is)
    (case lftitle => k_is)
    (case cftitle => k_is)
    (case kftitle => k_is)
    (case afnumber => k_is)
    (case lfnumber => k_is)
    (case cfnumber => k_is)
    (case kfnumber => k_is)
    (case afkinds => k_is)
    (case lfkinds => k_is)
    (case cfkinds => k_is)
    (case kfkinds => k_is)
    (case afparts => k_is)
    (case lfparts => k_is)
    (case cfparts => k_is)
    (case kfparts => k_is)
    (case afrun_right => k_is)
    (case lfrun_right => k_is)
    (case cfrun_right => k_is)
    (case kfrun_right => k_is)
    (case afstay_right => k_is)
    (case lfstay_right => k_is)
    (case cfstay_right => k_is)
    (case kfstay_right => k_is)
    (case aflaw => k_is)
    (case lflaw => k_is)
    (case cflaw => k_is)
    (case kflaw => k_is)
    (case x1CBadTrip => k_is)
    (case x2CBadTrip => decide +kernel)
    (case x3CBadTrip => k_is)
    (case x4CBadTrip => k_is)
    (case x5CBadTrip => k_is)
    (case x6CBadTrip => k_is)
    (case x7CBadTrip => k_is)
    (case x8CBadTrip => ks_is)
    (case x9CBadTrip => k_is)
    (case y1CBadTrip => k_is)
    (case y2CBadTrip => k_is)
    (case y3CBadTrip => k_is)
    (case y4CBadTrip => k_is)
    (case y5CBadTrip => k_is)
    (case y6CBadTrip => k_is)
    (case y7CBadTrip => k_is)
    (case y8CBadTrip => k_is)
    (case pgCTrip => k_is)
    (case hdCTrip => k_is)
    (case poCTrip => k_is)
    (case saCTrip => k_is)
    (case mkCTrip => k_is)
    (case kcCTrip => k_is)
    (case icCTrip => k_is)
    (case igCTrip => k_is)
    (case itCTrip => k_is)
    (case imCTrip => k_is)
    (case sfCTrip => k_is)
    (case pgCPaused => k_is)
    (case hdCPaused => k_is)
    (case poCPaused => k_is)
    (case saCPaused => k_is)
    (case mkCPaused => k_is)
    (case kcCPaused => k_is)
    (case icCPaused => k_is)
    (case igCPaused => k_is)
    (case itCPaused => k_is)
    (case imCPaused => k_is)
    (case sfCPaused => k_is)
    (case pgCRun => k_is)
    (case hdCRun => k_is)
    (case poCRun => k_is)
    (case saCRun => k_is)
    (case mkCRun => k_is)
    (case kcCRun => k_is)
    (case icCRun => k_is)
    (case igCRun => k_is)
    (case itCRun => k_is)
    (case imCRun => k_is)
    (case sfCRun => k_is)
    (case pgCStay => k_is)
    (case hdCStay => k_is)
    (case poCStay => k_is)
    (case saCStay => k_is)
    (case mkCStay => k_is)
    (case kcCStay => k_is)
    (case icCStay => k_is)
    (case igCStay => k_is)
    (case itCStay => k_is)
    (case imCStay => k_is)
    (case sfCStay => k_is)
    (case nfBadTrippart => k_is)
    (case so1Run => k_is)
    (case so2Run => ks_is)
    (case so1Stay => k_is)
    (case so2Stay => ks_is)
    (case fiTrip_init => k_is)
    (case msx => k_is)
    (case opx => k_is)
    (case naRungoal => k_is)
    (case naRunleaves => k_is)
    (case naRunname => k_is)
    (case naRunstart => k_is)
    (case naRuntakes => k_is)
    (case naStaygoal => k_is)
    (case naStayleaves => k_is)
    (case naStayname => k_is)
    (case naStaystart => k_is)
    (case naStaytakes => k_is)
    (case naTripgoal => k_is)
    (case naTripleaves => k_is)
    (case naTripname => k_is)
    (case naTripstart => k_is)
    (case naTriptakes => k_is)
    (case ihRun_eq => k_is)
    (case ihStay_eq => k_is)
    (case ihStay_str => k_is)
    (case cnRunWORD => k_is)
    (case cnRunWORDg => k_is)
    (case cnStayWORD => k_is)
    (case cnStayWORDg => k_is)
    (case cnTripWORD => k_is)
    (case cnTripWORDg => k_is)
    (case neRun => k_is)
    (case neStay => k_is)
    (case gLETTERS => k_is)
    (case gMOST_NUMBER => k_is)
    (case nabs => k_is)
    (case nall => k_is)
    (case nbool => k_is)
    (case nint => k_is)
    (case nisinstance => k_is)
    (case nlen => k_is)
    (case nlist => k_is)
    (case nmax => k_is)
    (case nrange => k_is)
    (case nrepr => k_is)
    (case nstr => k_is)
    (case ntuple => k_is)
    (case xkq_tNoneType_Paused => kit_is)
    (case xkq_tbool_Paused => kit_is)
    (case xkq_tint_Paused => kit_is)
    (case xkq_tstr_Paused => kit_is)
    (case xkq_tlist_Paused => kit_is)
    (case xkq_ttuple_Paused => kit_is)
    (case xkq_tdict_Paused => kit_is)
    (case xkq_Trip_Paused => kit_is)
    (case xkq_Run_Paused => kit_is)
    (case xkq_Stay_Paused => kit_is)
    (case xkq_BadTrip_Paused => kit_is)
    (case xkq_tNoneType_Run => kit_is)
    (case xkq_tbool_Run => kit_is)
    (case xkq_tint_Run => kit_is)
    (case xkq_tstr_Run => kit_is)
    (case xkq_tlist_Run => kit_is)
    (case xkq_ttuple_Run => kit_is)
    (case xkq_tdict_Run => kit_is)
    (case xkq_Trip_Run => kit_is)
    (case xkq_Run_Run => kit_is)
    (case xkq_Stay_Run => kit_is)
    (case xkq_BadTrip_Run => kit_is)
    (case xkq_tNoneType_Stay => kit_is)
    (case xkq_tbool_Stay => kit_is)
    (case xkq_tint_Stay => kit_is)
    (case xkq_tstr_Stay => kit_is)
    (case xkq_tlist_Stay => kit_is)
    (case xkq_ttuple_Stay => kit_is)
    (case xkq_tdict_Stay => kit_is)
    (case xkq_Trip_Stay => kit_is)
    (case xkq_Run_Stay => kit_is)
    (case xkq_Stay_Stay => kit_is)
    (case xkq_BadTrip_Stay => kit_is)
    (case xkq_tNoneType_Trip => kit_is)
    (case xkq_tbool_Trip => kit_is)
    (case xkq_tint_Trip => kit_is)
    (case xkq_tstr_Trip => kit_is)
    (case xkq_tlist_Trip => kit_is)
    (case xkq_ttuple_Trip => kit_is)
    (case xkq_tdict_Trip => kit_is)
    (case xkq_Trip_Trip => kit_is)
    (case xkq_Run_Trip => kit_is)
    (case xkq_Stay_Trip => kit_is)
    (case xkq_BadTrip_Trip => kit_is)
    (case xkq_Trip_tbool => kit_is)
    (case xkq_Run_tbool => kit_is)
    (case xkq_Stay_tbool => kit_is)
    (case xkq_BadTrip_tbool => kit_is)
    (case xkq_Trip_tint => kit_is)
    (case xkq_Run_tint => kit_is)
    (case xkq_Stay_tint => kit_is)
    (case xkq_BadTrip_tint => kit_is)
    (case xkq_Trip_tstr => kit_is)
    (case xkq_Run_tstr => kit_is)
    (case xkq_Stay_tstr => kit_is)
    (case xkq_BadTrip_tstr => kit_is)
    (case xsb_Run_tNoneType => k_is)
    (case xsb_Run_tbool => k_is)
    (case xsb_Run_tint => k_is)
    (case xsb_Run_tstr => k_is)
    (case xsb_Run_tlist => k_is)
    (case xsb_Run_ttuple => k_is)
    (case xsb_Run_tdict => k_is)
    (case xsb_Run_Trip => k_is)
    (case xsb_Run_Stay => k_is)
    (case xsb_Stay_tNoneType => k_is)
    (case xsb_Stay_tbool => k_is)
    (case xsb_Stay_tint => k_is)
    (case xsb_Stay_tstr => k_is)
    (case xsb_Stay_tlist => k_is)
    (case xsb_Stay_ttuple => k_is)
    (case xsb_Stay_tdict => k_is)
    (case xsb_Stay_Trip => k_is)
    (case xsb_Stay_Run => k_is)
#print axioms PySem.Challenge.cw_onelongturn_k12_trips_made_holds


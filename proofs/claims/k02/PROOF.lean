import PyProof.Rows.All
import Wide.All
import OpenK.AllK
import Wide.FinOn
import HandS.ForMost
import HandS.Wide
import KE.KOpsOwn
import HandS.IsInst
import HandS.Style
import HandS.Flow
import HandS.TupLe
import HandS.Evl
import PyProof.ReprRoads
import HandS.MakeKwOnly
import HandS.ClsMeth
import KE.KCallOwn
import PyProof.EqAt
import PySem.Challenge.RW_onelongturn_k02_moments_of_days
set_option Elab.async false
set_option linter.all false
set_option maxRecDepth 100000
set_option maxHeartbeats 4000000
namespace Ol
open PySem PySem.W PySem.Calls PyProof.Rows L2
section
variable {prog : Program} {w : World} {M : Model} {A : Around} {E : Value → Shared → Prop} {s : Shared} {K : Frag} {x C L f : Addr} {ox : Obj} {od : Option Obj} {nm T : String}

/-- an int's own method lets an instance be -/
def Lets (id : String) : Prop := ∀ (prog : Program) (w : World) (A : Around) (E : Value → Shared → Prop) (s : Shared) (x C dx : Addr) (i : Int) (t : Tok) (Q : Value → Shared → Prop),
  s.heap.get? x = some (instObj C dx) → Q .notImplemented s → wpAny (model prog w) A (call (.builtin id) [.int i t, .ref x]) Q E s
theorem lets_mod : Lets "int.__mod__" := by
  intro prog w A E s x C dx i t Q hx h
  refine wpAny_call_entry F.slot_int_mod (typeIs_int s i t) F.entry_int_mod ?_ (F.args_int_mod_2 _ _)
  obtain ⟨hp, g, d, tk, os⟩ := s
  unfold Builtin.«int.__mod__»
  wp_walk
  exact ⟨_, rfl, h⟩
theorem lets_fdiv : Lets "int.__floordiv__" := by
  intro prog w A E s x C dx i t Q hx h
  refine wpAny_call_entry F.slot_int_floordiv (typeIs_int s i t) F.entry_int_floordiv ?_ (F.args_int_floordiv_2 _ _)
  obtain ⟨hp, g, d, tk, os⟩ := s
  unfold Builtin.«int.__floordiv__»
  wp_walk
  exact ⟨_, rfl, h⟩
theorem lets_mul : Lets "int.__mul__" := by
  intro prog w A E s x C dx i t Q hx h
  refine wpAny_call_entry F.slot_int_mul (typeIs_int s i t) F.entry_int_mul ?_ (F.args_int_mul_2 _ _)
  obtain ⟨hp, g, d, tk, os⟩ := s
  unfold Builtin.«int.__mul__»
  wp_walk
  exact ⟨_, rfl, h⟩
theorem lets_add : Lets "int.__add__" := by
  intro prog w A E s x C dx i t Q hx h
  refine wpAny_call_entry F.slot_int_add (typeIs_int s i t) F.entry_int_add ?_ (F.args_int_add_2 _ _)
  obtain ⟨hp, g, d, tk, os⟩ := s
  unfold Builtin.«int.__add__»
  wp_walk
  exact ⟨_, rfl, h⟩

theorem fills_R {h : Heap} {cd : ClassData} {rest : List Value} {fo : Option Value} (X : K.In h) (hc : clsIn K C = some cd) (hm : cd.mro = .ref C :: rest)
    (hs : findIn K (.ref C) (PySem.dunder nm) = some fo) (hp : fo = none ∨ ∃ g : Addr, fo = some (.ref g)) (hr : findIn K (.ref C) (dunderR nm) = some (some (.ref f))) : Looks M h (fillsNumberSlot (.ref C) nm) true := by
  rcases hp with rfl | ⟨g, rfl⟩
  · intro A Q E s k q
    unfold fillsNumberSlot
    refine wpAny_bind ((looks_clsIn X hc).andThen (f := fun cd => pure cd.mro) .now A _ E s k ?_)
    rw [hm, List.anyM_cons]
    refine wpAny_bind ?_
    show wpAny M A (List.anyM _ [PySem.dunder nm, dunderR nm]) _ _ _
    rw [List.anyM_cons]
    refine wpAny_bind (wpAny_bind (looks_findIn X hs A _ E s k ?_))
    dsimp only
    refine wpAny_pure ?_
    rw [if_neg (show ¬ (false = true) from Bool.false_ne_true), List.anyM_cons]
    refine wpAny_bind (wpAny_bind (looks_findIn X hr A _ E s k ?_))
    dsimp only
    rw [if_pos (show (!ownNameWrapper (.ref f) (PySem.dunderR nm)) = true from rfl)]
    refine wpAny_pure ?_
    rw [if_pos rfl]
    refine wpAny_pure ?_
    rw [if_pos rfl]
    exact wpAny_pure q
  · exact fills_K X hc hm hs

theorem refl_int {op : Operator} {i : Int} {t : Tok} {id : String} {dx : Addr} {fo : Option Value} {Q : Value → Shared → Prop} (X : K.In s.heap) (I : InstAt s.heap x ox C od) (hx : s.heap.get? x = some (instObj C dx)) (hc : selfFirst K C = true)
    (fl : fillsNumberSlot (.type "int") op.info.2 = pure true) (sl : Slot "int" (PySem.dunder op.info.2) id) (lt : Lets id)
    (hs : findIn K (.ref C) (PySem.dunder op.info.2) = some fo) (hp : fo = none ∨ ∃ g : Addr, fo = some (.ref g)) (hr : findIn K (.ref C) (dunderR op.info.2) = some (some (.ref f))) (hf : isFn K (.ref f) = true) (hsub : subIn K (.ref C) (.type "int") = some false)
    (h : wpAny (model prog w) A (call (.ref f) [.ref x, .int i t]) (W.CmpBack Q) E s) : wpAny (model prog w) A (binaryOp op (.int i t) (.ref x)) Q E s := by
  obtain ⟨cd, rest, hcd, hm⟩ := ksp_first hc
  rcases hi : op.info with ⟨sym, nm'⟩
  rw [hi] at hs hr fl sl
  dsimp only at hs hr fl sl
  have one := ksp_try X I hr hf h
  have two : ∀ Q' : Option Value → Shared → Prop, Q' none s → wpAny (model prog w) A (tryMethod (.int i t) (PySem.dunder nm') (.ref x)) Q' E s := fun Q' q =>
    wpAny_tryMethod_declines (typeIs_int s i t) sl (lt _ _ _ _ _ _ _ _ _ _ _ hx ⟨rfl, q⟩)
  obtain ⟨hh, g, d, tt, os⟩ := s
  have L1 : Looks (model prog w) hh (typeOf (.int i t)) (.type "int") := Looks.of_pure rfl
  have L2 : Looks (model prog w) hh (typeOf (.ref x)) (.ref C) := I.type
  have L3 : Looks (model prog w) hh (fillsNumberSlot (.type "int") nm') true := Looks.of_pure fl
  have L4 : Looks (model prog w) hh (fillsNumberSlot (.ref C) nm') true := fills_R X hcd hm hs hp hr
  have L5 : Looks (model prog w) hh (isSubtype (.ref C) (.type "int")) false := looks_subIn X hsub
  have L7 : Looks (model prog w) hh (numberSlotInPython (.type "int") nm') false := Looks.of_pure rfl
  have hne : (Value.type "int" == Value.ref C) = false := Bool.eq_false_iff.mpr fun q => by cases beq_iff_eq.mp q
  simp only [binaryOp, hi]
  refine wpAny_holding (wpAny_bind ?_)
  unfold binaryOp1
  refine wpAny_bind (L1.at (wpAny_bind (L2.at (wpAny_bind (L3.at ?_)))))
  simp only [hne, Bool.false_eq_true, if_false]
  ksp_lk
  refine two _ ?_
  ksp_lk
  refine wpAny_mono one (fun r s' hr' => ?_) fun _ _ e => e
  obtain ⟨v, rfl, hq⟩ := hr'
  ksp_lk
  exact hq
end
end Ol

namespace Ol
open PySem PySem.W PySem.Calls PyProof.Rows L2
section
variable {X : Cx} {CX : CXT} {k : Nat} {C f : Addr} {fd : FuncData} {ps : List Str} {sp : Sp} {E : XK} {pins : List (Addr × Obj)} {σ : L2.St} {H : Hp} {s : Shared}

/-- what the type of a value is looked up as -/
theorem looks_ty {x : V} {u t : Value} (I : Inv X pins σ H s) (rx : RelV x u) (ty : TyX X.K H x t) : Looks (model X.prog X.w) s.heap (typeOf u) t := by
  cases ty with
  | base b =>
    cases b with
    | non => cases (show u = Value.none from rx); exact Looks.of_pure rfl
    | bl y => cases (show u = Value.bool y from rx); exact Looks.of_pure rfl
    | int i => obtain ⟨t, q⟩ := (show ∃ t, u = Value.int i t from rx); cases q; exact Looks.of_pure rfl
    | str y => obtain ⟨t, q⟩ := (show ∃ t, u = Value.str y t from rx); cases q; exact Looks.of_pure rfl
    | flt y => obtain ⟨t, q⟩ := (show ∃ t, u = Value.float y t from rx); cases q; exact Looks.of_pure rfl
    | @lst a xs ea =>
      cases (show u = Value.ref a from rx)
      obtain ⟨_, _, n, _, h1⟩ := (show ObjOk X.prog X.w H s.heap a (.lst xs) from I.hok a _ ea)
      exact (Looks.ld h1).andThen .now
    | @frz a ob xs ea =>
      cases (show u = Value.ref a from rx)
      obtain ⟨_, _, _, n, _, h1⟩ := (show ObjOk X.prog X.w H s.heap a (.frz ob (.lst xs)) from I.hok a _ ea)
      exact (Looks.ld h1).andThen .now
    | @tup a xs ea =>
      cases (show u = Value.ref a from rx)
      obtain ⟨_, _, _, o, h1, h2, _⟩ := (show ObjOk X.prog X.w H s.heap a (.tup xs) from I.hok a _ ea)
      exact h2 ▸ (Looks.ld h1).andThen .now
    | @dK a kvs ea =>
      cases (show u = Value.ref a from rx)
      obtain ⟨_, _, vs, _, o, es, ep, h1, h2, _⟩ := (show ObjOk X.prog X.w H s.heap a (.dK kvs) from I.hok a _ ea)
      exact h2.1 ▸ (Looks.ld h1).andThen .now
    | @dT a kvs ea =>
      cases (show u = Value.ref a from rx)
      obtain ⟨_, _, xs, _, o, es, ep, h1, h2, _⟩ := (show ObjOk X.prog X.w H s.heap a (.dT kvs) from I.hok a _ ea)
      exact h2.1 ▸ (Looks.ld h1).andThen .now
    | @ins a C dx fs ea cl ha hn htk hm =>
      cases (show u = Value.ref a from rx)
      obtain ⟨mA, O, _⟩ := ins_get I.hok ea
      obtain ⟨od, J, _⟩ := O.look
      exact J.type
  | byt y => obtain ⟨t, q⟩ := (show ∃ t, u = Value.bytes y t from rx); cases q; exact Looks.of_pure rfl
  | @set a S n ea =>
    cases (show u = Value.ref a from rx)
    obtain ⟨o, _, _, _, e, ex, _⟩ := (show ObjOk X.prog X.w H s.heap a (.set S n) from I.hok a _ ea)
    exact ex.1 ▸ (Looks.ld e).andThen .now
  | @kList a o e c =>
    cases (show u = Value.ref a from rx)
    exact c ▸ (Looks.ld (I.kIn a o e)).andThen .now
  | @kTuple a o e c =>
    cases (show u = Value.ref a from rx)
    exact c ▸ (Looks.ld (I.kIn a o e)).andThen .now
  | @kDict a o e c =>
    cases (show u = Value.ref a from rx)
    exact c ▸ (Looks.ld (I.kIn a o e)).andThen .now
  | @fTuple a ob xs ea =>
    cases (show u = Value.ref a from rx)
    obtain ⟨_, _, _, _, o, h1, h2, _⟩ := (show ObjOk X.prog X.w H s.heap a (.frz ob (.tup xs)) from I.hok a _ ea)
    exact h2 ▸ (Looks.ld h1).andThen .now
  | @fDict a ob kvs ea =>
    cases (show u = Value.ref a from rx)
    obtain ⟨_, _, _, vs, _, o, es, ep, h1, h2, _⟩ := (show ObjOk X.prog X.w H s.heap a (.frz ob (.dK kvs)) from I.hok a _ ea)
    exact h2.1 ▸ (Looks.ld h1).andThen .now

theorem back_ep {Q : VK} {u : Value} {s' : Shared} (h : EP X pins σ Q u s') : W.CmpBack (EP X pins σ Q) u s' := by
  obtain ⟨v, H', I', r, q⟩ := id h
  cases v with
  | non => cases (show u = Value.none from r); exact h
  | bl b => cases (show u = Value.bool b from r); exact h
  | int i => obtain ⟨t, e⟩ := (show ∃ t, u = Value.int i t from r); cases e; exact h
  | str i => obtain ⟨t, e⟩ := (show ∃ t, u = Value.str i t from r); cases e; exact h
  | byt i => obtain ⟨t, e⟩ := (show ∃ t, u = Value.bytes i t from r); cases e; exact h
  | flt i => obtain ⟨t, e⟩ := (show ∃ t, u = Value.float i t from r); cases e; exact h
  | ref a => cases (show u = Value.ref a from r); exact h
  | ty n => cases (show u = Value.type n from r); exact h

/-! ### own operators -/
/-- a op b, a an int, b an instance with the reflected method f -/
def rRefl (C : Addr) (sp : Sp) (E : XK) : R2 := fun x y H Q => ∃ i a dx fs, x = .int i ∧ y = .ref a ∧ H a = some (.ins C dx fs) ∧ sp [.ref a, .int i] H Q E
structure ReflOf (K : Frag) (C : Addr) (op : Operator) (f : Addr) : Prop where
  first : selfFirst K C = true
  own : ∃ fo : Option Value, findIn K (.ref C) (PySem.dunder op.info.2) = some fo ∧ (fo = none ∨ ∃ g : Addr, fo = some (.ref g))
  at_ : findIn K (.ref C) (dunderR op.info.2) = some (some (.ref f))
  fn : isFn K (.ref f) = true
  sub : subIn K (.ref C) (.type "int") = some false
theorem op_refl {op : Operator} {id : String} (R : ReflOf X.K C op f) (fl : fillsNumberSlot (.type "int") op.info.2 = pure true) (sl : Slot "int" (PySem.dunder op.info.2) id) (lt : Lets id)
    (F : FnOk X.prog X.w X.K X.mg X.base CX k f fd ps sp) (hr : Room k X.A) (hb : Binds X.K fd ps []) (hx : Passes CX X E) : OpR X (binaryOp op) (rRefl C sp E) := by
  intro pins s σ H x y v u Q I rx ry h
  obtain ⟨i, a, dx, fs, rfl, rfl, ea, q⟩ := h
  obtain ⟨t, rfl⟩ := rx
  cases (show u = Value.ref a from ry)
  obtain ⟨mA, O, _⟩ := ins_get I.hok ea
  obtain ⟨od, J, _⟩ := O.look
  obtain ⟨fo, h1, h2⟩ := R.own
  refine refl_int I.kIn J O.obj R.first fl sl lt h1 h2 R.at_ R.fn R.sub ?_
  exact wpAny_mono (run_fn (us := [.ref a, .int i t]) (vs := [.ref a, .int i]) F hr hb .nil hx I (.cons rfl (.cons ⟨t, rfl⟩ .nil)) q) (fun _ _ z => back_ep z) fun _ _ z => z
/-- a op b, a an instance with the method f, b of a built-in type T -/
def rOwnL (K : Frag) (C : Addr) (T : String) (sp : Sp) (E : XK) : R2 := fun x y H Q => ∃ a dx fs, x = .ref a ∧ H a = some (.ins C dx fs) ∧ TyX K H y (.type T) ∧ sp [.ref a, y] H Q E
structure OwnOf (K : Frag) (C : Addr) (op : Operator) (T : String) (f : Addr) : Prop where
  first : selfFirst K C = true
  at_ : findIn K (.ref C) (PySem.dunder op.info.2) = some (some (.ref f))
  fn : isFn K (.ref f) = true
  refl : ∃ rc : Option Value, findIn K (.ref C) (dunderR op.info.2) = some rc ∧ (rc = none ∨ ∃ g : Addr, rc = some (.ref g))
  t1 : ∃ fo, findIn K (.type T) (PySem.dunder op.info.2) = some fo
  t2 : ∃ ro, findIn K (.type T) (dunderR op.info.2) = some ro
  sub : subIn K (.type T) (.ref C) = some false

theorem own_left {op : Operator} {b : Value} {T : String} {x : Addr} {ox : Obj} {od : Option Obj} {K : Frag} {prog : Program} {w : World} {A : Around} {Er : Value → Shared → Prop} {fo ro rc : Option Value} {Q : Value → Shared → Prop} (X : K.In s.heap) (I : InstAt s.heap x ox C od)
    (hb : Looks (model prog w) s.heap (typeOf b) (.type T)) (hc : selfFirst K C = true)
    (hs : findIn K (.ref C) (PySem.dunder op.info.2) = some (some (.ref f))) (hf : isFn K (.ref f) = true) (hr : findIn K (.ref C) (dunderR op.info.2) = some rc) (hp : rc = none ∨ ∃ g : Addr, rc = some (.ref g))
    (h1 : findIn K (.type T) (PySem.dunder op.info.2) = some fo) (h2 : findIn K (.type T) (dunderR op.info.2) = some ro) (hsub : subIn K (.type T) (.ref C) = some false)
    (h : wpAny (model prog w) A (call (.ref f) [.ref x, b]) (W.CmpBack Q) Er s) : wpAny (model prog w) A (binaryOp op (.ref x) b) Q Er s := by
  obtain ⟨cd, rest, hcd, hm⟩ := ksp_first hc
  rcases hi : op.info with ⟨sym, nm'⟩
  rw [hi] at hs hr h1 h2
  dsimp only at hs hr h1 h2
  have one := ksp_try X I hs hf h
  obtain ⟨hh, g, d, tt, os⟩ := s
  have L1 : Looks (model prog w) hh (typeOf (.ref x)) (.ref C) := I.type
  have L2 : Looks (model prog w) hh (typeOf b) (.type T) := hb
  have L3 : Looks (model prog w) hh (fillsNumberSlot (.ref C) nm') true := fills_K X hcd hm hs
  have L4 : Looks (model prog w) hh (fillsNumberSlot (.type T) nm') ((fo.isSome && !isSeqSlot fo) || (ro.isSome && !isSeqSlot ro)) := ksp_fillsT X h1 h2
  have L5 : Looks (model prog w) hh (isSubtype (.type T) (.ref C)) false := looks_subIn X hsub
  have L6 : Looks (model prog w) hh (numberSlotInPython (.ref C) nm') true := ksp_inPy X hs hr hp
  have L7 : Looks (model prog w) hh (numberSlotInPython (.type T) nm') false := Looks.of_pure rfl
  have L8 : Looks (model prog w) hh (typeLookup (.type T) (dunderR nm')) ro := looks_findIn X h2
  generalize ((fo.isSome && !isSeqSlot fo) || (ro.isSome && !isSeqSlot ro)) = right at L4
  have hne : (Value.ref C == Value.type T) = false := Bool.eq_false_iff.mpr fun q => by cases beq_iff_eq.mp q
  simp only [binaryOp, hi]
  refine wpAny_holding (wpAny_bind ?_)
  unfold binaryOp1
  refine wpAny_bind (L1.at (wpAny_bind (L2.at (wpAny_bind (L3.at ?_)))))
  simp only [hne, Bool.false_eq_true, if_false]
  cases right with
  | false =>
    ksp_lk
    refine wpAny_mono one (fun r s' hr' => ?_) fun _ _ e => e
    obtain ⟨v, rfl, hq⟩ := hr'
    ksp_lk
    exact hq
  | true =>
    ksp_lk
    refine wpAny_mono one (fun r s' hr' => ?_) fun _ _ e => e
    obtain ⟨v, rfl, hq⟩ := hr'
    ksp_lk
    exact hq
theorem op_ownL {op : Operator} {T : String} (R : OwnOf X.K C op T f) (F : FnOk X.prog X.w X.K X.mg X.base CX k f fd ps sp) (hr : Room k X.A) (hb : Binds X.K fd ps []) (hx : Passes CX X E) : OpR X (binaryOp op) (rOwnL X.K C T sp E) := by
  intro pins s σ H x y v u Q I rx ry h
  obtain ⟨a, dx, fs, rfl, ea, ty, q⟩ := h
  cases (show v = Value.ref a from rx)
  obtain ⟨mA, O, _⟩ := ins_get I.hok ea
  obtain ⟨od, J, _⟩ := O.look
  obtain ⟨rc, h1, h2⟩ := R.refl
  obtain ⟨fo, h3⟩ := R.t1
  obtain ⟨ro, h4⟩ := R.t2
  refine own_left I.kIn J (looks_ty I ry ty) R.first R.at_ R.fn h1 h2 h3 h4 R.sub ?_
  exact wpAny_mono (run_fn (us := [.ref a, u]) (vs := [.ref a, y]) F hr hb .nil hx I (.cons rfl (.cons ry .nil)) q) (fun _ _ z => back_ep z) fun _ _ z => z

/-- a == b and its like, a an instance with the method f -/
def rCmpO (K : Frag) (C : Addr) (sp : Sp) (E : XK) : R2 := fun x y H Q => ∃ a dx fs t, x = .ref a ∧ H a = some (.ins C dx fs) ∧ TyX K H y t ∧ notFirst K C t = true ∧ sp [.ref a, y] H Q E
structure CmpOf (K : Frag) (C : Addr) (op : CmpOp) (f : Addr) : Prop where
  at_ : findIn K (.ref C) (cmpInfo op).2.1 = some (some (.ref f))
  fn : isFn K (.ref f) = true
theorem op_cmpO {op : CmpOp} (hop : ∀ a b, compareOp op a b = richCompare op a b) (R : CmpOf X.K C op f) (F : FnOk X.prog X.w X.K X.mg X.base CX k f fd ps sp) (hr : Room k X.A) (hb : Binds X.K fd ps []) (hx : Passes CX X E) : OpR X (compareOp op) (rCmpO X.K C sp E) := by
  intro pins s σ H x y v u Q I rx ry h
  obtain ⟨a, dx, fs, t, rfl, ea, ty, nf, q⟩ := h
  cases (show v = Value.ref a from rx)
  obtain ⟨mA, O, _⟩ := ins_get I.hok ea
  obtain ⟨od, J, _⟩ := O.look
  obtain ⟨m, Fm⟩ := I.fr
  rw [hop]
  refine cmp_K hr.units0 Fm I.mod.kin J (looks_ty I ry ty) nf R.at_ R.fn ?_
  exact wpAny_mono (run_fn (us := [.ref a, u]) (vs := [.ref a, y]) F hr hb .nil hx I (.cons rfl (.cons ry .nil)) q) (fun _ _ z => back_ep z) fun _ _ z => z

/-- b in a, a an instance with the method f -/
def rInO (C : Addr) (sp : Sp) (E : XK) (g : Bool → Bool) : R2 := fun x y H Q => ∃ a dx fs, y = .ref a ∧ H a = some (.ins C dx fs) ∧ sp [.ref a, x] H (fun v H' => ∃ b, v = .bl b ∧ Q (.bl (g b)) H') E
theorem op_inO (R : Meth X.K C "__contains__" f) (F : FnOk X.prog X.w X.K X.mg X.base CX k f fd ps sp) (hr : Room k X.A) (hb : Binds X.K fd ps []) (hx : Passes CX X E) : OpR X (compareOp .In) (rInO C sp E id) := by
  intro pins s σ H x y v u Q I rx ry h
  obtain ⟨a, dx, fs, rfl, ea, q⟩ := h
  cases (show u = Value.ref a from ry)
  obtain ⟨mA, O, _⟩ := ins_get I.hok ea
  obtain ⟨od, J, _⟩ := O.look
  obtain ⟨m, Fm⟩ := I.fr
  refine in_K Fm I.mod.kin J R.at_ R.fn ?_
  refine wpAny_mono (run_fn (us := [.ref a, v]) (vs := [.ref a, x]) F hr hb .nil hx I (.cons rfl (.cons rx .nil)) q) (fun z s' hz => ?_) fun _ _ z => z
  obtain ⟨v', H', I', r', b, rfl, q'⟩ := hz
  cases (show z = Value.bool b from r')
  exact wpAny_truthy_bool ⟨.bl b, H', I', rfl, q'⟩
theorem op_notInO (R : Meth X.K C "__contains__" f) (F : FnOk X.prog X.w X.K X.mg X.base CX k f fd ps sp) (hr : Room k X.A) (hb : Binds X.K fd ps []) (hx : Passes CX X E) : OpR X (compareOp .NotIn) (rInO C sp E not) := by
  intro pins s σ H x y v u Q I rx ry h
  obtain ⟨a, dx, fs, rfl, ea, q⟩ := h
  cases (show u = Value.ref a from ry)
  obtain ⟨mA, O, _⟩ := ins_get I.hok ea
  obtain ⟨od, J, _⟩ := O.look
  obtain ⟨m, Fm⟩ := I.fr
  refine notIn_K Fm I.mod.kin J R.at_ R.fn ?_
  refine wpAny_mono (run_fn (us := [.ref a, v]) (vs := [.ref a, x]) F hr hb .nil hx I (.cons rfl (.cons rx .nil)) q) (fun z s' hz => ?_) fun _ _ z => z
  obtain ⟨v', H', I', r', b, rfl, q'⟩ := hz
  cases (show z = Value.bool b from r')
  exact wpAny_truthy_bool ⟨.bl (!b), H', I', rfl, q'⟩

/-- a != b by the __eq__ of the class of a and object's __ne__ -/
structure NeOf (K : Frag) (C : Addr) (f : Addr) : Prop where
  eq : findIn K (.ref C) "__eq__" = some (some (.ref f))
  fn : isFn K (.ref f) = true
  ne : findIn K (.ref C) "__ne__" = some (some (.builtin "object.__ne__"))
  obj : mroIn K C (.type "object") = some true
theorem ne_obj {b tb : Value} {x : Addr} {ox : Obj} {od : Option Obj} {K : Frag} {prog : Program} {w : World} {A : Around} {Er : Value → Shared → Prop} {Q : Value → Shared → Prop} (hu : A.units + 1 < cLine) (X : K.In s.heap) (I : InstAt s.heap x ox C od)
    (hb : Looks (model prog w) s.heap (typeOf b) tb) (hn : notFirst K C tb = true) (R : NeOf K C f)
    (h : wpAny (model prog w) A.in1 (call (.ref f) [.ref x, b]) (fun v s' => ∃ k, v = .bool k ∧ Q (.bool (!k)) s') Er s) : wpAny (model prog w) A (compareOp .NotEq (.ref x) b) Q Er s := by
  have sub : Looks (model prog w) s.heap (isInstance (.ref x) (.type "object")) true := I.type.andThen (looks_mroIn X R.obj)
  have one : wpAny (model prog w) A (tryCompare (.ref x) "__ne__" b) (fun r s' => ∃ v, r = some v ∧ Q v s') Er s := by
    unfold tryCompare
    refine wpAny_bind ?_
    simp only [callSpecialIfBound?, bindSpecialIfBound?]
    refine wpAny_holding (wpAny_bind (wpAny_bind (wpAny_bind (I.type.here ((looks_findIn X R.ne).here ?_)))))
    have S := F.cmp_object.ne
    simp only [S.bind]
    refine wpAny_bind (wpAny_askSetting (wpAny_ite ?_))
    have fin : wpAny (model prog w) A (call (.builtin "object.__ne__") ([.ref x] ++ [b]) >>= fun v => pure (some v)) (fun a s' => wpAny (model prog w) A (match a with | some .notImplemented | none => pure none | some v => pure (some v)) (fun r s' => ∃ v, r = some v ∧ Q v s') Er s') Er s := by
      refine wpAny_bind (wpAny_call (codeAny_call_builtin S.plain F.cmpEntry_ne (check_slot F.cmpKind_ne F.cmpSplit_ne sub (F.cmpArgs_ne _ _) ?_)))
      unfold Builtin.«object.__ne__»
      obtain ⟨hp, g, d, t, os⟩ := s
      repeat (first
        | with_reducible refine wpAny_cRoomFor hu ?_
        | (refine wpAny_bind (m := callSpecialIfBound? (.ref x) (Str.ofString "__eq__") [b])
            (ifBound_K X I R.eq R.fn (wpAny_mono h (fun r s' hr => by
              obtain ⟨k, rfl, hq⟩ := hr
              repeat (first | exact ⟨_, rfl, hq⟩ | exact wpAny_pure (wpAny_pure ⟨_, rfl, hq⟩) | exact wpAny_pure ⟨_, rfl, hq⟩ | exact wpAny_truthy_bool hq | (refine wpAny_bind (m := truthy (.bool _)) (wpAny_truthy_bool ?_)) | wp_step)) fun _ _ e => e)))
        | wp_step)
    split
    · exact wpAny_bind (wpAny_pure (wpAny_pure (by exact fin)))
    · exact wpAny_tryCatch (wpAny_bind (wpAny_pure (wpAny_pure (by exact fin))))
  show wpAny _ _ (richCompare .NotEq (.ref x) b) _ _ _
  unfold richCompare
  simp only [oneThing_ref]
  refine wpAny_holding (wpAny_bind (wpAny_cRoomFor (Nat.lt_of_succ_lt hu) ?_))
  rw [show cmpInfo .NotEq = (("!=", "__ne__", "__ne__") : String × Str × Str) from rfl]
  dsimp only
  refine wpAny_bind (I.type.here (wpAny_bind (hb.here ?_)))
  split
  · rename_i q
    have e : subIn K tb (.ref C) = some false := by
      rcases Bool.or_eq_true_iff.mp hn with e | e
      · rw [beq_iff_eq.mp e] at q; simp at q
      · exact beq_iff_eq.mp e
    refine wpAny_bind ((looks_subIn X e).here ?_)
    simp only [Bool.false_eq_true, if_false]
    refine wpAny_bind (wpAny_mono one (fun r s' z => ?_) fun _ _ e => e)
    obtain ⟨v, rfl, hq⟩ := z
    exact wpAny_pure hq
  · refine wpAny_bind (wpAny_pure ?_)
    simp only [Bool.false_eq_true, if_false]
    refine wpAny_bind (wpAny_mono one (fun r s' z => ?_) fun _ _ e => e)
    obtain ⟨v, rfl, hq⟩ := z
    exact wpAny_pure hq

def rNeO (K : Frag) (C : Addr) (sp : Sp) (E : XK) : R2 := fun x y H Q => ∃ a dx fs t, x = .ref a ∧ H a = some (.ins C dx fs) ∧ TyX K H y t ∧ notFirst K C t = true ∧ sp [.ref a, y] H (fun v H' => ∃ b, v = .bl b ∧ Q (.bl (!b)) H') E
theorem run_in1 {Q : VK} {us : List Value} {vs : List V} (F : FnOk X.prog X.w X.K X.mg X.base CX k f fd ps sp) (hr : Room (k + 1) X.A) (hb : Binds X.K fd ps []) (hx : Passes CX X E)
    (I : Inv X pins σ H s) (r : Vals vs us) (h : sp vs H Q E) : wpAny (model X.prog X.w) X.A.in1 (call (.ref f) us) (EP X pins σ Q) X.xe s := by
  have hl : us.length = ps.length := by rw [← r.length]; exact F.len _ _ _ _ h
  have hb' := hb s us I.kIn (by rw [List.append_nil]; exact hl)
  rw [List.append_nil] at hb'
  refine wpAny_call (codeAny_mono (F.run X.A.in1 X.stack s H ⟨us, []⟩ us vs Q E hr.in1 I.env0.in1 hb' r h) fun r s' hq => ?_)
  cases r with
  | error e => exact hx pins σ H s e s' I hq
  | ok fl =>
    cases fl with
    | ret u => exact I.after hq
    | next => exact False.elim hq
    | brk => exact False.elim hq
    | cont => exact False.elim hq
theorem op_neO (R : NeOf X.K C f) (F : FnOk X.prog X.w X.K X.mg X.base CX k f fd ps sp) (hr : Room (k + 1) X.A) (hb : Binds X.K fd ps []) (hx : Passes CX X E) : OpR X (compareOp .NotEq) (rNeO X.K C sp E) := by
  intro pins s σ H x y v u Q I rx ry h
  obtain ⟨a, dx, fs, t, rfl, ea, ty, nf, q⟩ := h
  cases (show v = Value.ref a from rx)
  obtain ⟨mA, O, _⟩ := ins_get I.hok ea
  obtain ⟨od, J, _⟩ := O.look
  refine ne_obj (hu_of hr) I.kIn J (looks_ty I ry ty) nf R ?_
  refine wpAny_mono (run_in1 (us := [.ref a, u]) (vs := [.ref a, y]) F hr hb hx I (.cons rfl (.cons ry .nil)) q) (fun z s' hz => ?_) fun _ _ z => z
  obtain ⟨v', H', I', r', b, rfl, q'⟩ := hz
  cases (show z = Value.bool b from r')
  exact ⟨b, rfl, .bl (!b), H', I', rfl, q'⟩
theorem rich_eq (a b : Value) : compareOp .Eq a b = richCompare .Eq a b := rfl
theorem rich_lt (a b : Value) : compareOp .Lt a b = richCompare .Lt a b := rfl
theorem rich_le (a b : Value) : compareOp .LtE a b = richCompare .LtE a b := rfl
theorem rich_gt (a b : Value) : compareOp .Gt a b = richCompare .Gt a b := rfl
theorem rich_ge (a b : Value) : compareOp .GtE a b = richCompare .GtE a b := rfl
end
end Ol

namespace Ol
open PySem L2
theorem pe_gi {X : Cx} {x : Str} {i : Int} {pos : Pos} (hg : Gl X x) (h : ∃ t, X.mg x = some (Value.int i t)) (hd : (x == ("__debug__" : Str)) = false := by decide) : PE X (.Name x pos) (tC (.int i)) := by
  obtain ⟨t, h⟩ := h
  exact pe_glob hg h ⟨t, rfl⟩ hd
/-! ### heaps that a pen is drawn from -/
/-- all that stands beside p stays -/
def Go (p : Addr) (H H' : Hp) : Prop := ∀ b o, b ≠ p → H b = some o → H' b = some o
theorem Go.refl (p : Addr) (H : Hp) : Go p H H := fun _ _ _ h => h
theorem Go.trans {p : Addr} {H H1 H2 : Hp} (a : Go p H H1) (b : Go p H1 H2) : Go p H H2 := fun c o n h => b c o n (a c o n h)
theorem Same.go {p : Addr} {H H' : Hp} (s : Same H H') : Go p H H' := fun b o _ h => s b o h
theorem Same.new {H : Hp} {q : Addr} {o : HO} (h : H q = none) : Same H (upd H q o) := fun b u e => by rw [upd_ne (ne_of_none e h)]; exact e
theorem Go.new {p : Addr} {H : Hp} {q : Addr} {o : HO} (h : H q = none) : Go p H (upd H q o) := Same.go (Same.new h)
/-- an object beside p -/
structure At (p : Addr) (H : Hp) (b : Addr) (o : HO) : Prop where
  ne : b ≠ p
  at_ : H b = some o
theorem At.go {p b : Addr} {H H' : Hp} {o : HO} (a : At p H b o) (g : Go p H H') : At p H' b o := ⟨a.ne, g _ _ a.ne a.at_⟩
/-- the pen: its cells, how many are used, what is left of a great one; n more draws are let -/
def Pen (p : Addr) (H : Hp) (n : Nat) : Prop := ∃ (l : Addr) (cells : List Int) (spot great : Int), H p = some (.lst [.ref l, .int spot, .int great]) ∧ l ≠ p ∧ H l = some (.lst (cells.map V.int)) ∧ 0 ≤ spot ∧ spot + n ≤ 4000000 ∧ 0 ≤ great ∧ cells.length ≤ 63
theorem Pen.le {p : Addr} {H : Hp} {m n : Nat} (h : Pen p H n) (le : m ≤ n) : Pen p H m := by
  obtain ⟨l, c, s, g, h1, h2, h3, h4, h5, h6, h7⟩ := h
  exact ⟨l, c, s, g, h1, h2, h3, h4, by omega, h6, h7⟩
theorem Pen.same {p : Addr} {H H' : Hp} {n : Nat} (h : Pen p H n) (s : Same H H') : Pen p H' n := by
  obtain ⟨l, c, sp, g, h1, h2, h3, h4⟩ := h
  exact ⟨l, c, sp, g, s _ _ h1, h2, s _ _ h3, h4⟩
theorem Pen.new {p q : Addr} {H : Hp} {n : Nat} {o : HO} (h : Pen p H n) (hq : H q = none) : Pen p (upd H q o) n := h.same (Same.new hq)
theorem Pen.ne {p q : Addr} {H : Hp} {n : Nat} (h : Pen p H n) (hq : H q = none) : q ≠ p := by
  obtain ⟨l, c, sp, g, h1, _⟩ := h
  exact (ne_of_none h1 hq).symm
/-- a new object beside the pen -/
theorem Pen.at {p q : Addr} {H : Hp} {n : Nat} {o : HO} (h : Pen p H n) (hq : H q = none) : At p (upd H q o) q o := ⟨h.ne hq, upd_same⟩
theorem Pen.ins {p b C dx : Addr} {fs : List (Str × V)} {H : Hp} {n : Nat} (h : Pen p H n) (hb : H b = some (.ins C dx fs)) : At p H b (.ins C dx fs) := by
  obtain ⟨l, c, sp, g, h1, _⟩ := h
  exact ⟨ne_of hb h1 (by intro z; cases z), hb⟩
theorem Pen.tup {p b : Addr} {xs : List V} {H : Hp} {n : Nat} (h : Pen p H n) (hb : H b = some (.tup xs)) : At p H b (.tup xs) := by
  obtain ⟨l, c, sp, g, h1, _⟩ := h
  exact ⟨ne_of hb h1 (by intro z; cases z), hb⟩
/-! ### the promises of the law's own pen -/
def spPen (K : PySem.W.Frag) : Sp := fun vs H Q _ => ∃ (a : Addr) (ns : List Int), vs = [.ref a] ∧ SqL K H a (ns.map V.int) ∧ ns.length ≤ 63 ∧ ∀ (p : Addr) (H' : Hp), Same H H' → H p = none → Pen p H' 4000000 → Q (.ref p) H'
def spDraw : Sp := fun vs H Q _ => ∃ (p : Addr) (many : Int) (n : Nat), vs = [.ref p, .int many] ∧ 0 < many ∧ many.natAbs < 2 ^ 250 ∧ Pen p H (n + 1) ∧ ∀ (d : Int) (H' : Hp), Go p H H' → Pen p H' n → 0 ≤ d → d < many → Q (.int d) H'
def spPick (K : PySem.W.Frag) : Sp := fun vs H Q _ => ∃ (p q : Addr) (xs : List V) (n : Nat), vs = [.ref p, .ref q] ∧ At p H q (.lst xs) ∧ 0 < xs.length ∧ xs.length ≤ 1000 ∧ Pen p H (n + 1) ∧ ∀ (v : V) (H' : Hp), Go p H H' → Pen p H' n → v ∈ xs → Q v H'
/-! ### kinds -/
structure IsC (K : PySem.W.Frag) (C : Addr) : Prop where
  cl : Cls K C
  ha : PySem.W.findIn K (.ref C) "__class__" = some (some (.builtin "object.__class__"))
  hn : PySem.W.specialIn K (.builtin "object.__class__") "__get__" = some (some (.builtin "getset_descriptor.__get__"))
  htk : PySem.W.takesIn K (.builtin "object.__class__") = some true
  hm : PySem.W.mroIn K C (.type "object") = some true
theorem IsC.ty {K : PySem.W.Frag} {C a dx : Addr} {fs : List (Str × V)} {H : Hp} (i : IsC K C) (h : H a = some (.ins C dx fs)) : TyX K H (.ref a) (.ref C) := .base (.ins h i.cl i.ha i.hn i.htk i.hm)
theorem kit_int_int {K : PySem.W.Frag} : PySem.W.kitOne K (.type "int") (.type "int") = some true := kit_ty (by decide +kernel)
theorem kit_int_bool {K : PySem.W.Frag} : PySem.W.kitOne K (.type "int") (.type "bool") = some false := kit_ty (by decide +kernel)
theorem kit_bool_int {K : PySem.W.Frag} : PySem.W.kitOne K (.type "bool") (.type "int") = some true := kit_ty (by decide +kernel)
theorem kit_bool_bool {K : PySem.W.Frag} : PySem.W.kitOne K (.type "bool") (.type "bool") = some true := kit_ty (by decide +kernel)
theorem kit_self {K : PySem.W.Frag} {t : Value} : PySem.W.kitOne K t t = some true := by unfold PySem.W.kitOne; rw [if_pos (by simp)]
/-- a value that is no int (a bool may be) -/
def NoInt (K : PySem.W.Frag) (H : Hp) (x : V) : Prop := ∃ (t : Value) (b : Bool), TyX K H x t ∧ PySem.W.kitOne K t (.type "int") = some b ∧ (b = true → PySem.W.kitOne K t (.type "bool") = some true)
def spIsInt (K : PySem.W.Frag) : Sp := fun vs H Q _ => ∃ x, vs = [x] ∧ ((∃ i, x = .int i ∧ Q (.bl true) H) ∨ (NoInt K H x ∧ Q (.bl false) H))
def spBetween (K : PySem.W.Frag) : Sp := fun vs H Q _ => ∃ x lo hi, vs = [x, .int lo, .int hi] ∧ ((∃ i, x = .int i ∧ Q (.bl (decide (lo ≤ i ∧ i ≤ hi))) H) ∨ (NoInt K H x ∧ Q (.bl false) H))
def spMoment (K : PySem.W.Frag) : Sp := fun vs H Q _ => ∃ x, vs = [x] ∧ ((∃ i, x = .int i ∧ Q (.bl (decide (i.natAbs < 10 ^ 60))) H) ∨ (NoInt K H x ∧ Q (.bl false) H))
end Ol

namespace Ol
open PySem L2
/-! ### one reading, one step -/
section
variable {K : PySem.W.Frag} {σ : L2.St} {H : Hp} {Q : VK} {ta tb tc te : TE} {t u : TT} {ts us : TS} {tr : TA} {D : Ends} {v x y : V} {i j : Int} {C : Addr}
theorem t_ret (h : te σ H D.rt) : tRet te D σ H := h
theorem t_retN (h : D.rt .non H) : tRetN D σ H := h
theorem t_next (h : D.nx σ H) : tNext D σ H := h
theorem t_break (h : D.bk σ H) : tBreak D σ H := h
theorem t_cont (h : D.ct σ H) : tCont D σ H := h
theorem t_seq (h : ts { D with nx := us D } σ H) : tSeq ts us D σ H := h
theorem t_drop (h : te σ H fun _ H1 => D.nx σ H1) : tDrop te D σ H := h
theorem t_asg {g : TG} (h : te σ H fun x H1 => g x σ H1 D.nx) : tAsg te g D σ H := h
theorem t_name {k : Nat} {R : L2.St → Hp → Prop} (h : R (σ.set k (some v)) H) : gName k v σ H R := h
theorem t_ifS (h : t σ H fun b H1 => if b = true then ts D σ H1 else us D σ H1) : tIfS t ts us D σ H := h
theorem t_par {k l : Nat} (h : tr σ H fun vs H1 => ∃ v w, vs = [v, w] ∧ D.nx ((σ.set k (some v)).set l (some w)) H1) : tPar k l tr D σ H := h
theorem ex_par {P : V → V → Prop} (h : P x y) : ∃ v w, [x, y] = [v, w] ∧ P v w := ⟨x, y, rfl, h⟩
theorem t_var {k : Nat} (e : σ[k]? = some (some v)) (h : Q v H) : tVar k σ H Q := ⟨v, e, h⟩
theorem t_c (h : Q v H) : tC v σ H Q := h
theorem t_op {r : R2} (h : ta σ H fun x H1 => tb σ H1 fun y H2 => r x y H2 Q) : tOp r ta tb σ H Q := h
theorem t_un {r : V → Hp → VK → Prop} (h : ta σ H fun x H1 => r x H1 Q) : tUn r ta σ H Q := h
theorem t_andV (h : ta σ H fun x H1 => ∃ c, x = .bl c ∧ if c = true then tb σ H1 Q else Q (.bl false) H1) : tAndV ta tb σ H Q := h
theorem t_orV (h : ta σ H fun x H1 => ∃ c, x = .bl c ∧ if c = true then Q (.bl true) H1 else tb σ H1 Q) : tOrV ta tb σ H Q := h
theorem t_notV (h : ta σ H fun x H1 => ∃ c, x = .bl c ∧ Q (.bl (!c)) H1) : tNotV ta σ H Q := h
theorem t_if (h : t σ H fun c H1 => if c = true then ta σ H1 Q else tb σ H1 Q) : tIf t ta tb σ H Q := h
theorem t_B {R : Bool → Hp → Prop} (h : te σ H fun x H1 => ∃ c, x = .bl c ∧ R c H1) : tB te σ H R := h
theorem t_test {R : Bool → Hp → Prop} (h : te σ H fun x H1 => ∃ c, x = .bl c ∧ R c H1) : tTest te σ H R := h
theorem t_and {R : Bool → Hp → Prop} (h : t σ H fun c H1 => if c = true then u σ H1 R else R false H1) : tAnd t u σ H R := h
theorem t_or {R : Bool → Hp → Prop} (h : t σ H fun c H1 => if c = true then R true H1 else u σ H1 R) : tOr t u σ H R := h
theorem t_not {R : Bool → Hp → Prop} (h : t σ H fun c H1 => R (!c) H1) : tNot t σ H R := h
theorem t_chain {r r' : R2} (h : ta σ H fun x H1 => tb σ H1 fun y H2 => r x y H2 fun z H3 => ∃ k, z = .bl k ∧ (if k = true then tc σ H3 fun w' H4 => r' y w' H4 Q else Q (.bl false) H3)) : tChain r r' ta tb tc σ H Q := h
theorem t_cb {r : List V → Hp → VK → Prop} (h : tr σ H fun vs H1 => r vs H1 Q) : tCB r tr σ H Q := h
theorem t_nil {R : List V → Hp → Prop} (h : R [] H) : tNil σ H R := h
theorem t_cons {R : List V → Hp → Prop} (h : ta σ H fun x H1 => tr σ H1 fun xs H2 => R (x :: xs) H2) : tCons ta tr σ H R := h
theorem t_call {sp : Sp} {E : XK} (h : tr σ H fun vs H1 => sp vs H1 Q E) : tCall sp [] E tr σ H Q := by
  show tr σ H fun vs H1 => sp (vs ++ []) H1 Q E
  simpa only [List.append_nil] using h
theorem t_meth {m : Str} {sp : Sp} {E : XK} (h : ta σ H fun x H1 => ∃ a dx fs, x = .ref a ∧ H1 a = some (.ins C dx fs) ∧ fs.lookup m = none ∧ tr σ H1 fun vs H2 => sp (x :: vs) H2 Q E) : tMeth C m sp [] E ta tr σ H Q := by
  show ta σ H fun x H1 => ∃ a dx fs, x = .ref a ∧ H1 a = some (.ins C dx fs) ∧ fs.lookup m = none ∧ tr σ H1 fun vs H2 => sp (x :: (vs ++ [])) H2 Q E
  simpa only [List.append_nil] using h
theorem t_lst (h : tr σ H fun xs H1 => xs.length ≤ sizeLine ∧ ∀ p, H1 p = none → Q (.ref p) (upd H1 p (.lst xs))) : tLst tr σ H Q := h
theorem t_tup (h : tr σ H fun xs H1 => xs.length ≤ sizeLine ∧ ∀ p, H1 p = none → Q (.ref p) (upd H1 p (.tup xs))) : tTup tr σ H Q := h
theorem t_fld {f : Str} (h : ta σ H fun x H1 => ∃ a C dx fs v, x = .ref a ∧ H1 a = some (.ins C dx fs) ∧ Cls K C ∧ NoAttr K C f ∧ fs.lookup f = some v ∧ Q v H1) : tFld K ta f σ H Q := h
theorem t_sfld {f : Str} (h : tb σ H fun y H1 => ta σ H1 fun x H2 => ∃ a C dx fs, x = .ref a ∧ H2 a = some (.ins C dx fs) ∧ Cls K C ∧ NoAttr K C f ∧ fs.length < 1000 ∧ D.nx σ (upd H2 a (.ins C dx (putF f y fs)))) : sFld K ta tb f D σ H := h
theorem lst_ok {xs : List V} (h : Nat.ble xs.length 1000 = true) : xs.length ≤ sizeLine := Nat.le_trans (Nat.le_of_ble_eq_true h) (by decide)
theorem t_noPart {R : Option Int → Hp → Prop} (h : R none H) : tNoPart σ H R := h
theorem t_part {R : Option Int → Hp → Prop} (h : te σ H fun x H1 => ∃ i, x = .int i ∧ R (some i) H1) : tPart te σ H R := h
theorem t_sl {r : V → Option Int → Option Int → Hp → VK → Prop} {tl th : TO} (h : te σ H fun x H1 => tl σ H1 fun l H2 => th σ H2 fun u H3 => r x l u H3 Q) : tSl r te tl th σ H Q := h
theorem t_sub {to ti : TE} {ts : TSet} {R : L2.St → Hp → Prop} (h : to σ H fun o H1 => ti σ H1 fun i H2 => ts o i v H2 fun H3 => R σ H3) : gSub to ti ts v σ H R := h
theorem ex_bl {b : Bool} {P : Bool → Prop} (h : P b) : ∃ c, V.bl b = V.bl c ∧ P c := ⟨b, rfl, h⟩
theorem ex_int {P : Int → Prop} (h : P i) : ∃ c, V.int i = V.int c ∧ P c := ⟨i, rfl, h⟩
theorem r_I0 {g : Int → Int → V} (h : Q (g i j) H) : rI0 g (.int i) (.int j) H Q := ⟨i, j, rfl, rfl, h⟩
theorem r_I {c : Int → Int → Prop} {g : Int → Int → V} (hc : c i j) (h : Q (g i j) H) : rI c g (.int i) (.int j) H Q := ⟨i, j, rfl, rfl, hc, h⟩
theorem r_U {g : Int → V} (h : Q (g i) H) : rU g (.int i) H Q := ⟨i, rfl, h⟩
theorem dec_int {i j : Int} : decide (V.int i = V.int j) = decide (i = j) := by
  by_cases e : i = j
  · rw [e]; simp
  · rw [decide_eq_false e, decide_eq_false fun q => e (V.int.inj q)]
theorem dec_bl {i j : Bool} : decide (V.bl i = V.bl j) = decide (i = j) := by
  by_cases e : i = j
  · rw [e]; simp
  · rw [decide_eq_false e, decide_eq_false fun q => e (V.bl.inj q)]
theorem dec_str {i j : Str} : decide (V.str i = V.str j) = decide (i = j) := by
  by_cases e : i = j
  · rw [e]; simp
  · rw [decide_eq_false e, decide_eq_false fun q => e (V.str.inj q)]
theorem r_eqI (h : Q (.bl (decide (i = j))) H) : rEq (.int i) (.int j) H Q := ⟨rfl, by rw [dec_int]; exact h⟩
theorem r_neI (h : Q (.bl (!decide (i = j))) H) : rNe (.int i) (.int j) H Q := ⟨rfl, by rw [dec_int]; exact h⟩
theorem r_eqB {i j : Bool} (h : Q (.bl (decide (i = j))) H) : rEq (.bl i) (.bl j) H Q := ⟨rfl, by rw [dec_bl]; exact h⟩
theorem r_neB {i j : Bool} (h : Q (.bl (!decide (i = j))) H) : rNe (.bl i) (.bl j) H Q := ⟨rfl, by rw [dec_bl]; exact h⟩
theorem r_eqS {i j : Str} (h : Q (.bl (decide (i = j))) H) : rEq (.str i) (.str j) H Q := ⟨rfl, by rw [dec_str]; exact h⟩
theorem r_neS {i j : Str} (h : Q (.bl (!decide (i = j))) H) : rNe (.str i) (.str j) H Q := ⟨rfl, by rw [dec_str]; exact h⟩
theorem r_ixL {p : Addr} {xs : List V} (h : SqL K H p xs) (e : atI xs i = some v) (q : Q v H) : rIxL K (.ref p) (.int i) H Q := ⟨p, xs, i, v, rfl, rfl, h, e, q⟩
theorem r_ixT {p : Addr} {xs : List V} (h : SqT K H p xs) (e : atI xs i = some v) (q : Q v H) : rIxT K (.ref p) (.int i) H Q := ⟨p, xs, i, v, rfl, rfl, h, e, q⟩
theorem c_int1 {P : Int → Prop} {R : Prop} (h : P i) : (∃ k, [V.int i] = [V.int k] ∧ P k) ∨ R := .inl ⟨i, rfl, h⟩
theorem c_intB {b : Bool} {P : Bool → Prop} {R : Prop} (h : P b) : R ∨ ∃ k, [V.bl b] = [V.bl k] ∧ P k := .inr ⟨b, rfl, h⟩
theorem ite_n {b : Bool} {A B : Prop} (h : if b = true then B else A) : if (!b) = true then A else B := by cases b <;> exact h
theorem ite_y {c : Prop} [Decidable c] {A B : Prop} (hc : c) (h : A) : if decide c = true then A else B := by rw [decide_eq_true hc]; exact iteT h
theorem ite_f {c : Prop} [Decidable c] {A B : Prop} (hc : ¬ c) (h : B) : if decide c = true then A else B := by rw [decide_eq_false hc]; exact iteF h
theorem ite_d {c : Prop} [Decidable c] {A B : Prop} (h1 : c → A) (h2 : ¬ c → B) : if decide c = true then A else B := by
  by_cases hc : c
  · exact ite_y hc (h1 hc)
  · exact ite_f hc (h2 hc)
theorem t_make {sp : Sp} {E : XK} (h : tr σ H fun vs H1 => ∀ x dx, H1 x = none → H1 dx = none → dx ≠ x → sp (.ref x :: vs) (upd (upd H1 dx (.own x)) x (.ins C dx [])) (fun v H2 => v = .non ∧ Q (.ref x) H2) E) : tMake C sp [] E tr σ H Q := by
  show tr σ H fun vs H1 => ∀ x dx, H1 x = none → H1 dx = none → dx ≠ x → sp (.ref x :: (vs ++ [])) (upd (upd H1 dx (.own x)) x (.ins C dx [])) (fun v H2 => v = .non ∧ Q (.ref x) H2) E
  simpa only [List.append_nil] using h
theorem t_par3 {k l m : Nat} (h : tr σ H fun vs H1 => ∃ u v w, vs = [u, v, w] ∧ D.nx (((σ.set k (some u)).set l (some v)).set m (some w)) H1) : tPar3 k l m tr D σ H := h
def ForW (J : L2.It) (g : TG) (tb : TS) (D : Ends) (σ : L2.St) (H1 : Hp) : Prop := ∃ W : Nat → Nat → L2.St → Hp → Prop, (∃ m, W 0 m σ H1) ∧ ∀ i m σ H, W i m σ H →
  (J.stop i H ∧ D.nx σ H) ∨ (J.go i H ∧ ∃ N : L2.St → Hp → Prop, (∀ σ' H', N σ' H' → ∃ m', m' < m ∧ W (i + 1) m' σ' H') ∧ ∀ x H', J.yld i H x H' → g x σ H' fun σ2 H2 => tb { D with nx := N, ct := N, bk := D.nx } σ2 H2)
theorem t_for1 {g : TG} (h : tr σ H fun vs H1 => ∃ j : Int, vs = [.int j] ∧ -(2 ^ 62) ≤ j ∧ j < 2 ^ 62 ∧ ForW (Itr 0 j.toNat) g ts D σ H1) : tFor (iRng1 tr) g ts D σ H := h
theorem t_forL {g : TG} (h : ta σ H fun x H1 => ∃ a, x = .ref a ∧ (∃ xs, SqL K H1 a xs) ∧ ForW (Itl K a) g ts D σ H1) : tFor (iList K ta) g ts D σ H := h
theorem t_forT {g : TG} (h : ta σ H fun x H1 => ∃ a, x = .ref a ∧ (∃ xs, SqT K H1 a xs) ∧ ForW (Itt K a) g ts D σ H1) : tFor (iTup K ta) g ts D σ H := h
theorem ex_rng {g : TG} {n : Nat} {j : Int} (hj : j = (n : Int)) (hn : n < 2 ^ 62) (Pv : Nat → L2.St → Hp → Prop) (h0 : Pv 0 σ H) (hs : ∀ (i : Nat) σ H, i < n → Pv i σ H → g (.int (i : Int)) σ H fun σ2 H2 => ts { D with nx := Pv (i + 1), ct := Pv (i + 1), bk := D.nx } σ2 H2)
    (hd : ∀ σ H, Pv n σ H → D.nx σ H) : -(2 ^ 62) ≤ j ∧ j < 2 ^ 62 ∧ ForW (Itr 0 j.toNat) g ts D σ H := by
  subst hj
  refine ⟨by omega, by omega, for_range (lo := 0) (n := n) Pv h0 (fun i σ H hi p => ?_) hd⟩
  rw [Int.zero_add]
  exact hs i σ H hi p
theorem ex_lst {g : TG} {a : Addr} {xs : List V} (hx : SqL K H a xs) (Pv : Nat → L2.St → Hp → Prop) (h0 : Pv 0 σ H) (hl : ∀ i σ H, i ≤ xs.length → Pv i σ H → SqL K H a xs)
    (hs : ∀ i x σ H, xs[i]? = some x → Pv i σ H → g x σ H fun σ2 H2 => ts { D with nx := Pv (i + 1), ct := Pv (i + 1), bk := D.nx } σ2 H2) (hd : ∀ σ H, Pv xs.length σ H → D.nx σ H) :
    ∃ b, V.ref a = .ref b ∧ (∃ xs, SqL K H b xs) ∧ ForW (Itl K b) g ts D σ H := ⟨a, rfl, ⟨xs, hx⟩, for_list Pv h0 hl hs hd⟩
theorem ex_tup {g : TG} {a : Addr} {xs : List V} (hx : SqT K H a xs) (Pv : Nat → L2.St → Hp → Prop) (h0 : Pv 0 σ H) (hl : ∀ i σ H, i ≤ xs.length → Pv i σ H → SqT K H a xs)
    (hs : ∀ i x σ H, xs[i]? = some x → Pv i σ H → g x σ H fun σ2 H2 => ts { D with nx := Pv (i + 1), ct := Pv (i + 1), bk := D.nx } σ2 H2) (hd : ∀ σ H, Pv xs.length σ H → D.nx σ H) :
    ∃ b, V.ref a = .ref b ∧ (∃ xs, SqT K H b xs) ∧ ForW (Itt K b) g ts D σ H := ⟨a, rfl, ⟨xs, hx⟩, for_tup Pv h0 hl hs hd⟩
theorem dpAll_ints : ∀ ns : List Int, DpAll K H (ns.map V.int) (ns.map PyData.int)
  | [] => .nil
  | n :: r => .cons (.int n) (dpAll_ints r)
theorem r_neNil {p q : Addr} {ns : List Int} (h1 : SqL K H p (ns.map V.int)) (h2 : SqL K H q []) (h : Q (.bl (!ns.isEmpty)) H) : rNeD K (.ref p) (.ref q) H Q := by
  refine ⟨_, _, .lst h1 (dpAll_ints ns), .lst h2 .nil, PySem.W.ke_shaped_ints ns, by decide, ?_⟩
  cases ns with
  | nil => exact h
  | cons n r => exact h
theorem c_len {p : Addr} {xs : List V} {P : List V → Prop} (h : SqL K H p xs ∨ SqT K H p xs) (q : P xs) : ∃ a ys, [V.ref p] = [.ref a] ∧ (SqL K H a ys ∨ SqT K H a ys) ∧ P ys := ⟨p, xs, rfl, h, q⟩
theorem c_abs {P : Int → Prop} (h : P i) : ∃ k, [V.int i] = [.int k] ∧ P k := ⟨i, rfl, h⟩
theorem ex_par3 {z : V} {P : V → V → V → Prop} (h : P x y z) : ∃ v w u, [x, y, z] = [v, w, u] ∧ P v w u := ⟨x, y, z, rfl, h⟩
theorem abs_lt60 {i : Int} : decide ((if i < 0 then -i else i) < 10 ^ Int.toNat 60) = decide (i.natAbs < 10 ^ 60) := by
  have e : (10 : Int) ^ Int.toNat 60 = ((10 ^ 60 : Nat) : Int) := by decide
  rw [e]
  generalize (10 ^ 60 : Nat) = n
  by_cases h : i.natAbs < n
  · rw [decide_eq_true h, decide_eq_true]; split <;> omega
  · rw [decide_eq_false h, decide_eq_false]; split <;> omega
end
theorem cut63 {ns : List Int} (h : ns.length ≤ 63) : cutV (ns.map V.int) none (some 63) = ns.map V.int := by
  have e1 : HT.sIx (ns.map V.int).length 0 none = 0 := rfl
  have e2 : HT.sIx (ns.map V.int).length (ns.map V.int).length (some 63) = ns.length := by
    unfold HT.sIx
    simp only [List.length_map]
    first | omega | (split <;> omega) | (simp; omega)
  unfold cutV
  rw [e1, e2, List.drop_zero, Nat.sub_zero, ← List.length_map (f := V.int), List.take_length]
theorem at_ints {ns : List Int} {i : Int} (h0 : 0 ≤ i) (h1 : i < ns.length) : ∃ c, atI (ns.map V.int) i = some (.int c) := by
  obtain ⟨j, rfl⟩ : ∃ j : Nat, i = j := ⟨i.toNat, by omega⟩
  have hj : j < ns.length := by omega
  refine ⟨ns[j], ?_⟩
  unfold atI
  rw [List.length_map, Evl.ixN_nat hj]
  simp [hj]
theorem at_mem {xs : List V} {i : Int} (h0 : 0 ≤ i) (h1 : i < xs.length) : ∃ v, atI xs i = some v ∧ v ∈ xs := by
  obtain ⟨j, rfl⟩ : ∃ j : Nat, i = j := ⟨i.toNat, by omega⟩
  have hj : j < xs.length := by omega
  refine ⟨xs[j], ?_, List.getElem_mem hj⟩
  unfold atI
  rw [Evl.ixN_nat hj]
  simp [hj]
theorem t_cut {D : Ends} {σ : L2.St} {H : Hp} {ts us : TS} (Mid : L2.St → Hp → Prop) (h1 : ts { D with nx := Mid } σ H) (h2 : ∀ σ' H', Mid σ' H' → us D σ' H') : Evl.tCut ts us D σ H := ⟨Mid, h1, h2⟩
theorem mix_lt {b s k m c : Int} (b0 : 0 ≤ b) (b1 : b < 2147483648) (s0 : 0 ≤ s) (s1 : s ≤ 4000000) (k0 : 0 ≤ k) (k1 : k ≤ 1000) (m0 : 0 ≤ m) (m1 : m ≤ 100000) (c0 : 0 ≤ c) (c1 : c ≤ 1000) : (b * (2 * s + k) + m * s * s + c).natAbs < 2 ^ 64 := by
  have h1 : b * (2 * s + k) ≤ 2147483648 * 8001000 := Int.mul_le_mul (by omega) (by omega) (by omega) (by omega)
  have h2 : 0 ≤ b * (2 * s + k) := Int.mul_nonneg b0 (by omega)
  have h3 : m * s ≤ 100000 * 4000000 := Int.mul_le_mul m1 s1 s0 (by omega)
  have h4 : 0 ≤ m * s := Int.mul_nonneg m0 s0
  have h5 : m * s * s ≤ (100000 * 4000000) * 4000000 := Int.mul_le_mul h3 s1 s0 (by omega)
  have h6 : 0 ≤ m * s * s := Int.mul_nonneg h4 s0
  omega
theorem Go.set {p : Addr} {H : Hp} {o : HO} : Go p H (upd H p o) := fun b u n e => by rw [upd_ne n]; exact e
theorem if_int {b : Bool} {σ : L2.St} {H : Hp} {Q : VK} {ta tb : TE} {i j : Int} (h1 : ∀ Q : VK, Q (.int i) H → ta σ H Q) (h2 : ∀ Q : VK, Q (.int j) H → tb σ H Q) (h : Q (.int (if b = true then i else j)) H) : if b = true then ta σ H Q else tb σ H Q := by
  cases b with
  | true => exact h1 Q h
  | false => exact h2 Q h
/-! ### days -/
def DayAt (C : Addr) (H : Hp) (a : Addr) (L : Int) : Prop := (1 ≤ L ∧ L ≤ 1000000000000) ∧ ∃ dx, H a = some (.ins C dx [("length", .int L)])
theorem DayAt.same {C : Addr} {H H' : Hp} {a : Addr} {L : Int} (d : DayAt C H a L) (s : Same H H') : DayAt C H' a L := ⟨d.1, let ⟨dx, h⟩ := d.2; ⟨dx, s _ _ h⟩⟩
theorem DayAt.go {C p : Addr} {H H' : Hp} {a : Addr} {L : Int} {n : Nat} (d : DayAt C H a L) (P : Pen p H n) (g : Go p H H') : DayAt C H' a L := ⟨d.1, let ⟨dx, h⟩ := d.2; ⟨dx, ((P.ins h).go g).at_⟩⟩
theorem DayAt.new {C q : Addr} {H : Hp} {a : Addr} {L : Int} {o : HO} (d : DayAt C H a L) (h : H q = none) : DayAt C (upd H q o) a L := d.same (Same.new h)
def spLongBy : Sp := fun vs H Q _ => ∃ L k : Int, vs = [.int L, .int k] ∧ (1 ≤ L ∧ L ≤ 1000000000000) ∧ (1 ≤ k * L ∧ k * L ≤ 1000000000000) ∧ Q (.int (k * L)) H
def spDayInit (C : Addr) : Sp := fun vs H Q _ => ∃ (a dx : Addr) (L : Int), vs = [.ref a, .int L] ∧ (1 ≤ L ∧ L ≤ 1000000000000) ∧ H a = some (.ins C dx []) ∧ Q .non (upd H a (.ins C dx [("length", .int L)]))
def spRmod (C : Addr) : Sp := fun vs H Q _ => ∃ (a : Addr) (m L : Int), vs = [.ref a, .int m] ∧ DayAt C H a L ∧ m.natAbs < 10 ^ 60 ∧ Q (.int (m % L)) H
def spRfdiv (C : Addr) : Sp := fun vs H Q _ => ∃ (a : Addr) (m L : Int), vs = [.ref a, .int m] ∧ DayAt C H a L ∧ m.natAbs < 10 ^ 60 ∧ Q (.int (m / L)) H
def spForward (C : Addr) : Sp := fun vs H Q _ => ∃ (a : Addr) (m n L : Int), vs = [.ref a, .int m, .int n] ∧ DayAt C H a L ∧ m.natAbs < 10 ^ 60 ∧ n.natAbs < 10 ^ 60 ∧ ∀ H', Same H H' → Q (.int ((n - m) % L)) H'
def spDayMul (C : Addr) : Sp := fun vs H Q _ => ∃ (a : Addr) (k L : Int), vs = [.ref a, .int k] ∧ DayAt C H a L ∧ (1 ≤ k * L ∧ k * L ≤ 1000000000000) ∧ ∀ b H', Same H H' → H b = none → DayAt C H' b (k * L) → Q (.ref b) H'
def spDayEq (C : Addr) : Sp := fun vs H Q _ => ∃ (a b : Addr) (L M : Int), vs = [.ref a, .ref b] ∧ DayAt C H a L ∧ DayAt C H b M ∧ Q (.bl (decide (L = M))) H
theorem make_day {C : Addr} {H : Hp} {L : Int} {R : Addr → Hp → Prop} {E : XK} (hL : 1 ≤ L ∧ L ≤ 1000000000000) (h : ∀ b H', Same H H' → H b = none → DayAt C H' b L → R b H') :
    ∀ x dx, H x = none → H dx = none → dx ≠ x → spDayInit C [.ref x, .int L] (upd (upd H dx (.own x)) x (.ins C dx [])) (fun v H2 => v = .non ∧ R x H2) E := by
  intro x dx hx hd ne
  refine ⟨x, dx, L, rfl, hL, upd_same, rfl, h x _ (fun b o e => ?_) hx ⟨hL, dx, upd_same⟩⟩
  rw [upd_ne (ne_of_none e hx), upd_ne (ne_of_none e hx), upd_ne (ne_of_none e hd)]
  exact e
section
variable {K : PySem.W.Frag} {C a b : Addr} {H : Hp} {Q : VK} {E : XK} {L M m n k : Int} {R : Prop}
theorem notFirst_self : PySem.W.notFirst K C (.ref C) = true := by unfold PySem.W.notFirst; simp
theorem r_rmod (d : DayAt C H a L) (hm : m.natAbs < 10 ^ 60) (q : Q (.int (m % L)) H) : rRefl C (spRmod C) E (.int m) (.ref a) H Q := by
  obtain ⟨_, dx, h⟩ := id d
  exact ⟨m, a, dx, _, rfl, rfl, h, a, m, L, rfl, d, hm, q⟩
theorem r_rfdiv (d : DayAt C H a L) (hm : m.natAbs < 10 ^ 60) (q : Q (.int (m / L)) H) : rRefl C (spRfdiv C) E (.int m) (.ref a) H Q := by
  obtain ⟨_, dx, h⟩ := id d
  exact ⟨m, a, dx, _, rfl, rfl, h, a, m, L, rfl, d, hm, q⟩
theorem x_fwd (d : DayAt C H a L) (k : R) : ∃ a' dx fs, V.ref a = V.ref a' ∧ H a' = some (.ins C dx fs) ∧ fs.lookup ("forward" : Str) = none ∧ R := by
  obtain ⟨_, dx, h⟩ := id d
  exact ⟨a, dx, _, rfl, h, rfl, k⟩
theorem s_fwd (d : DayAt C H a L) (hm : m.natAbs < 10 ^ 60) (hn : n.natAbs < 10 ^ 60) (k : ∀ H', Same H H' → Q (.int ((n - m) % L)) H') : spForward C [.ref a, .int m, .int n] H Q E := ⟨a, m, n, L, rfl, d, hm, hn, k⟩
theorem r_dmul (d : DayAt C H a L) (hk : 1 ≤ k * L ∧ k * L ≤ 1000000000000) (q : ∀ b H', Same H H' → H b = none → DayAt C H' b (k * L) → Q (.ref b) H') : rOwnL K C "int" (spDayMul C) E (.ref a) (.int k) H Q := by
  obtain ⟨_, dx, h⟩ := id d
  exact ⟨a, dx, _, rfl, h, .base (.int k), a, k, L, rfl, d, hk, q⟩
theorem r_rdmul (d : DayAt C H a L) (hk : 1 ≤ k * L ∧ k * L ≤ 1000000000000) (q : ∀ b H', Same H H' → H b = none → DayAt C H' b (k * L) → Q (.ref b) H') : rRefl C (spDayMul C) E (.int k) (.ref a) H Q := by
  obtain ⟨_, dx, h⟩ := id d
  exact ⟨k, a, dx, _, rfl, rfl, h, a, k, L, rfl, d, hk, q⟩
theorem r_deq (I : IsC K C) (d : DayAt C H a L) (e : DayAt C H b M) (q : Q (.bl (decide (L = M))) H) : rCmpO K C (spDayEq C) E (.ref a) (.ref b) H Q := by
  obtain ⟨_, dx, h⟩ := id d
  obtain ⟨_, dy, h2⟩ := id e
  exact ⟨a, dx, _, _, rfl, h, I.ty h2, notFirst_self, a, b, L, M, rfl, d, e, q⟩
theorem r_dne (I : IsC K C) (d : DayAt C H a L) (e : DayAt C H b M) (q : Q (.bl (!decide (L = M))) H) : rNeO K C (spDayEq C) E (.ref a) (.ref b) H Q := by
  obtain ⟨_, dx, h⟩ := id d
  obtain ⟨_, dy, h2⟩ := id e
  exact ⟨a, dx, _, _, rfl, h, I.ty h2, notFirst_self, a, b, L, M, rfl, d, e, _, rfl, q⟩
theorem x_len (c : Cls K C) (n : NoAttr K C "length") (d : DayAt C H a L) {P : V → Prop} (q : P (.int L)) : ∃ a' C' dx fs v, V.ref a = V.ref a' ∧ H a' = some (.ins C' dx fs) ∧ Cls K C' ∧ NoAttr K C' "length" ∧ fs.lookup ("length" : Str) = some v ∧ P v := by
  obtain ⟨_, dx, h⟩ := id d
  exact ⟨a, C, dx, _, _, rfl, h, c, n, rfl, q⟩
end
end Ol

namespace Ol
open PySem PySem.Spec PyProof.Rows L2
/-- a def's promise where no repr runs around the call -/
structure FnG (P : Program) (w : World) (K : PySem.W.Frag) (mg : Str → Option Value) (base : Heap) (CX : CXT) (k : Nat) (f : Addr) (fd : FuncData) (ps : List Str) (sp : Sp) : Prop where
  len : ∀ vs H Q E, sp vs H Q E → vs.length = ps.length
  run : ∀ (A : Around) (outer : List Env) (s : Shared) (H : Hp) (args : Args) (us : List Value) (vs : List V) (Q : VK) (E : XK), A.guards = some [] → Room k A → Env0 P w K mg base A outer s H → BindsTo s fd args (ps.zip us) → Vals vs us → sp vs H Q E →
    codeAny (model P w) A (.call (.ref f) args) (CR CX outer P w H s Q E) s
section
variable {P : Program} {w : World} {K : PySem.W.Frag} {mg : Str → Option Value} {base : Heap} {CX : CXT} {k : Nat} {f : Addr} {fd : FuncData} {ps : List Str} {sp : Sp}
theorem FnG.of (F : FnOk P w K mg base CX k f fd ps sp) : FnG P w K mg base CX k f fd ps sp := ⟨F.len, fun A o s H a u v Q E _ => F.run A o s H a u v Q E⟩
/-- a def by its body, where no repr runs around it -/
theorem Fun.okG {x qual : Str} {st : Stmt} {N : List Str} (F : Fun K x qual st f fd) (S : FnScope N ps (defScope st)) (len : ∀ vs H Q E, sp vs H Q E → vs.length = ps.length)
    (hbody : ∀ (cdv : Value) (A : Around) (outer : List Env) (s : Shared) (H : Hp) (vs : List V) (Q : VK) (E : XK), (A.deeper (envOfC qual (defScope st) s.heap.objs.size f cdv)).guards = some [] → Room k (A.deeper (envOfC qual (defScope st) s.heap.objs.size f cdv)) → sp vs H Q E →
      ∃ t, PSs (cxOf CX P w K mg base N qual (defScope st) f cdv A outer s H E) (defBody st) t ∧ t { nx := fun _ H' => Q .non H', rt := Q } (L2.start N vs) H) : FnG P w K mg base CX (k + 1) f fd ps sp := by
  obtain ⟨oc, od, kV, doc, pm, an, cdv, ct, osl, rfl, lk, hcd⟩ := F.ex
  refine ⟨len, fun A outer s H args us vs Q E hg hr e0 hb r hsp => ?_⟩
  have hk : ∀ b o, base.get? b = some o → s.heap.get? b = some o := fun b o e => (e0.bs b o e).1
  have KX := e0.mod.kin.keeps hk
  refine codeAny_call_function hr.depth (KX _ _ lk) rfl S.co S.gen rfl (PySem.W.codeRec_of KX hcd) (hb _ _ _ _ ?_)
  refine wpAny_newFunctionEnv_cells S.kind (fun y hy => ?_) fun env he s1 x => ?_
  · rcases S.par y.1 (List.of_mem_zip hy).1 with q | q
    · exact .inl q
    · exact .inr ⟨q, PySem.W.cellsFrom_some _ _ _ (.inl q)⟩
  subst he
  refine ⟨(e0.mod.nolimit.keeps hk).keeps x.toInCall.keep, codeAny_func ?_⟩
  obtain ⟨t, ht, hq⟩ := hbody cdv A outer s H vs Q E hg (hr.deeper _) hsp
  have I : Inv (cxOf CX P w K mg base N qual (defScope st) f cdv A outer s H E) [] (L2.start N vs) H s1 := inv_start S hr.hd e0 (len _ _ _ _ hsp) r x
  refine wpAny_mono (ht.run [] s1 _ H _ I hq) (fun fl s' hs => ?_) fun e s' hs => hs
  cases fl with
  | ret u =>
    obtain ⟨v, σ', H', J, rv, q⟩ := hs
    exact ⟨v, H', J.os, J.bare, J.base, J.hok, rv, q⟩
  | next =>
    obtain ⟨σ', H', J, q⟩ := hs
    exact ⟨.non, H', J.os, J.bare, J.base, J.hok, rfl, q⟩
  | brk =>
    obtain ⟨_, _, _, q⟩ := hs
    exact False.elim q
  | cont =>
    obtain ⟨_, _, _, q⟩ := hs
    exact False.elim q
end
section
variable {X : Cx} {CX : CXT} {k : Nat} {f C : Addr} {fd : FuncData} {ps : List Str} {sp : Sp} {E : XK} {x : Str} {p pos : Pos} {e : Expr} {es : List Expr} {t : TA}
theorem run_fnG {pins : List (Addr × Obj)} {σ : L2.St} {H : Hp} {s : Shared} {Q : VK} {us : List Value} {vs : List V} (F : FnG X.prog X.w X.K X.mg X.base CX k f fd ps sp) (hg : X.A.guards = some []) (hr : Room k X.A) (hb : Binds X.K fd ps []) (hx : Passes CX X E)
    (I : Inv X pins σ H s) (r : Vals vs us) (h : sp vs H Q E) : wpAny (model X.prog X.w) X.A (call (.ref f) us) (EP X pins σ Q) X.xe s := by
  have hl : us.length = ps.length := by rw [← r.length]; exact F.len _ _ _ _ h
  have hb' := hb s us I.kIn (by rw [List.append_nil]; exact hl)
  rw [List.append_nil] at hb'
  refine wpAny_call (codeAny_mono (F.run X.A X.stack s H ⟨us, []⟩ us vs Q E hg hr I.env0 hb' r h) fun r s' hq => ?_)
  cases r with
  | error e => exact hx pins σ H s e s' I hq
  | ok fl =>
    cases fl with
    | ret u => exact I.after hq
    | next => exact False.elim hq
    | brk => exact False.elim hq
    | cont => exact False.elim hq
theorem pe_callG (F : FnG X.prog X.w X.K X.mg X.base CX k f fd ps sp) (hgd : X.A.guards = some []) (hr : Room k X.A) (hg : Gl X x) (hm : X.mg x = some (.ref f)) (hk : PySem.W.keepIn X.K (.ref f) = true) (hb : Binds X.K fd ps []) (hx : Passes CX X E)
    (ha : PA X (e :: es) t) (hdb : (x == ("__debug__" : Str)) = false := by decide) (he : starEach (e :: es) X.env = (false, eval e X.env) :: starEach es X.env := by rfl) (hpl : (backTo pos (starEach es X.env)).any (·.1) = false := by rfl) :
    PE X (.Call (.Name x p) (e :: es) [] pos) (tCall sp [] E t) := by
  refine ⟨fun pins s σ H Q I h => ?_⟩
  refine wpAny_Call_Name_kw (ld_glob I hg hm ?_ hdb)
  refine PySem.W.callWith_K (h₀ := X.base) I.ok.mod.kin hk (thn (ha.run pos pins s σ H _ I h) fun us s1 ⟨vs, H1, I1, r, q⟩ => ⟨I1.kIn, ?_⟩) he hpl
  have q' : sp (vs ++ []) H1 Q E := q
  rw [List.append_nil] at q'
  exact run_fnG F hgd hr hb hx I1 r q'
theorem pe_call0G (F : FnG X.prog X.w X.K X.mg X.base CX k f fd ps sp) (hgd : X.A.guards = some []) (hr : Room k X.A) (hg : Gl X x) (hm : X.mg x = some (.ref f)) (hk : PySem.W.keepIn X.K (.ref f) = true) (hb : Binds X.K fd ps []) (hx : Passes CX X E)
    (hdb : (x == ("__debug__" : Str)) = false := by decide) : PE X (.Call (.Name x p) [] [] pos) (tCall sp [] E tNil) := by
  refine ⟨fun pins s σ H Q I h => ?_⟩
  refine wpAny_Call_Name_kw (ld_glob I hg hm ?_ hdb)
  exact PySem.W.callWith_K0 I.kIn hk (run_fnG (us := []) F hgd hr hb hx I .nil h)
/-- data that repr shows in at most n signs -/
structure Sh (d : PyData) (n k : Nat) : Prop where
  s : d.showable = true
  h : d.hasDict = false
  l : d.shown.length ≤ n
  k : d.depth ≤ k
theorem Sh.le {d : PyData} {n m k j : Nat} (x : Sh d n k) (h : n ≤ m) (h2 : k ≤ j) : Sh d m j := ⟨x.s, x.h, Nat.le_trans x.l h, Nat.le_trans x.k h2⟩
theorem Sh.none : Sh .none 4 0 := ⟨rfl, rfl, by decide, Nat.le_refl _⟩
theorem Sh.bool (b : Bool) : Sh (.bool b) 5 0 := ⟨rfl, rfl, by cases b <;> decide, Nat.le_refl _⟩
theorem Sh.int {i : Int} (h : i.natAbs < 10 ^ 75) : Sh (.int i) 76 0 := by
  have e : i.natAbs < 2 ^ 250 := Nat.lt_trans h (by decide)
  refine ⟨decide_eq_true (Nat.lt_of_lt_of_le (PySem.Flt.log2_lt_of (by decide) e) (by decide)), rfl, ?_, Nat.le_refl _⟩
  show (Str.ofString (toString i)).length ≤ 76
  have h1 := int_text_length_le10 (a := i) (k := 75) (by decide) h
  rw [PyProof.Rows.ofString_len]
  exact h1
theorem shAll {n k : Nat} : ∀ {ds : List PyData}, (∀ d ∈ ds, Sh d n k) → PyData.showableAll ds = true ∧ PyData.hasDictAll ds = false ∧ ((PyData.shownAll ds).map (·.length)).sum ≤ ds.length * n ∧ PyData.depthAll ds ≤ k
  | [], _ => ⟨rfl, rfl, by simp [PyData.shownAll], Nat.zero_le _⟩
  | d :: r, h => by
    obtain ⟨h1, h2, h3, h4⟩ := shAll fun e he => h e (List.mem_cons_of_mem _ he)
    have x := h d List.mem_cons_self
    refine ⟨?_, ?_, ?_, ?_⟩
    · show (d.showable && PyData.showableAll r) = true
      rw [x.s, h1]; rfl
    · show (d.hasDict || PyData.hasDictAll r) = false
      rw [x.h, h2]; rfl
    · show ((d.shown :: PyData.shownAll r).map (·.length)).sum ≤ (d :: r).length * n
      rw [List.map_cons, List.sum_cons, List.length_cons, Nat.add_mul, Nat.one_mul]
      have := x.l
      omega
    · show max d.depth (PyData.depthAll r) ≤ k
      exact Nat.max_le.mpr ⟨x.k, h4⟩
theorem Sh.list {ds : List PyData} {n k : Nat} (h : ∀ d ∈ ds, Sh d n k) : Sh (.list ds) (ds.length * n + 2 * ds.length + 3) (k + 1) := by
  obtain ⟨h1, h2, h3, h4⟩ := shAll h
  refine ⟨h1, h2, ?_, ?_⟩
  · have a := listText_len_le (PyData.shownAll ds)
    have b := PyData.shownAll_length ds
    show (listText (PyData.shownAll ds)).length ≤ _
    omega
  · show PyData.depth (.list ds) ≤ k + 1
    simp only [PyData.depth]
    omega
theorem Sh.tuple {ds : List PyData} {n k : Nat} (h : ∀ d ∈ ds, Sh d n k) : Sh (.tuple ds) (ds.length * n + 2 * ds.length + 3) (k + 1) := by
  obtain ⟨h1, h2, h3, h4⟩ := shAll h
  refine ⟨h1, h2, ?_, ?_⟩
  · have a := tupleText_len_le (PyData.shownAll ds)
    have b := PyData.shownAll_length ds
    show (tupleText (PyData.shownAll ds)).length ≤ _
    omega
  · show PyData.depth (.tuple ds) ≤ k + 1
    simp only [PyData.depth]
    omega
/-- repr of data: None, bools, numbers, texts, lists, tuples -/
def rRepr (K : PySem.W.Frag) : List V → Hp → VK → Prop := fun xs H Q => ∃ (x : V) (d : PyData) (n : Nat), xs = [x] ∧ Dp K H x d ∧ Sh d n 40 ∧ n ≤ sizeLine ∧ Q (.str d.shown) H
theorem call_reprD {k : Nat} (hgd : X.A.guards = some []) (hr : Room k X.A) : CallR X (.builtin "repr") (rRepr X.K) := by
  intro pins s σ H xs us Q I r h
  obtain ⟨x, d, n, rfl, dp, sh, hn, q⟩ := h
  obtain ⟨u, rfl, ru⟩ := vals1 r
  have hz := Nat.le_trans sh.l hn
  cases dp with
  | non => cases (show u = Value.none from ru); exact PySem.P.repr_of_none ⟨.str _, H, I.tok _, ⟨_, rfl⟩, q⟩
  | bl b => cases (show u = Value.bool b from ru); exact PySem.P.repr_of_bool ⟨.str _, H, I.tok _, ⟨_, by cases b <;> rfl⟩, q⟩
  | int i => obtain ⟨t, e⟩ := (show ∃ t, u = Value.int i t from ru); cases e; exact PySem.P.repr_of_int (of_decide_eq_true sh.s) ⟨.str _, H, I.tok _, ⟨_, rfl⟩, q⟩
  | str y => obtain ⟨t, e⟩ := (show ∃ t, u = Value.str y t from ru); cases e; exact PySem.P.repr_of_str ⟨.str _, H, I.tok _, ⟨_, rfl⟩, q⟩ hz
  | @lst a ys ds h1 h2 =>
    cases (show u = Value.ref a from ru)
    obtain ⟨as, rd⟩ := Dp.reads I _ _ _ (.lst h1 h2) rfl
    exact repr_of_reads' rd sh.s (PyData.noDict_hsm sh.h) hgd (by have := sh.k; have := hr.un; omega) (fun _ _ e => e) (fun h' t tk hk => ⟨.str _, H, I.kept hk, ⟨_, rfl⟩, q⟩) hz
  | @tup a ys ds h1 h2 =>
    cases (show u = Value.ref a from ru)
    obtain ⟨as, rd⟩ := Dp.reads I _ _ _ (.tup h1 h2) rfl
    exact repr_of_reads' rd sh.s (PyData.noDict_hsm sh.h) hgd (by have := sh.k; have := hr.un; omega) (fun _ _ e => e) (fun h' t tk hk => ⟨.str _, H, I.kept hk, ⟨_, rfl⟩, q⟩) hz
end
/-! ### the end, where no repr runs around the law's call -/
def lawHp (a : Addr) (o : Obj) (xs : List V) : Hp := fun b => if b = a then some (.frz o (.lst xs)) else none
theorem walk_ofG {l : PySem.W.OpenLaw} {n k : Nat} {q : Program} {loose : List Str} {XP : (Str → Option Value) → Heap → Prop} {YP : World → Heap → Prop} {d : DefRec} {K : Params → PySem.W.Frag} {CX : World → CXT} {sp : World → Sp} {x : Str}
    (hn : l.most = some n) (hn2 : n ≤ sizeLine) (hdf : d.params.defaults = []) (hr : Room k callerA)
    (hY : ∀ (w : World) (h : Heap), YP w h → (K w.params).In h)
    (F : ∀ (w : World) (mg : Str → Option Value) (fa : Addr) (h : Heap), (K w.params).In h → h.Ns mainGlobals mg → mg d.name = some (.ref fa) →
      ∃ fd : FuncData, (∀ (s : Shared) (u : Value), BindsTo s fd ⟨[u], []⟩ [(x, u)]) ∧
        ∀ base : Heap, (K w.params).In base → base.Ns mainGlobals mg → FnG l.prog w (K w.params) mg base (CX w) k fa fd [x] (sp w))
    (hsp : ∀ (w : World) (H : Hp) (a : Addr) (ns : List Int), ns.length ≤ n → Only H → SqL (K w.params) H a (ns.map V.int) → sp w [.ref a] H (fun v _ => v = .bl true) fun _ _ _ => False)
    (hCX : ∀ (w : World) (H : Hp) (s : Shared) (e : Value) (s' : Shared), CX w [] H s (fun _ _ _ => False) e s' → False) :
    PySem.W.WalkO q loose XP YP l.row.toRowW d [] (fun f vs => PySem.call f vs) := by
  refine Att.attach_call hn hdf fun w s₀ s₁ mg mb fa o pm cd doc a vs ns G Y ho hd hcd hmg hobj hints hlen hg => ?_
  have KX := hY w _ Y
  obtain ⟨fd, hb, hF⟩ := F w mg fa _ KX G.T.g hmg
  have rv : Vals (ns.map V.int) vs := vals_ints hints
  have lenV := hints.length
  have hl := Nat.le_trans hlen hn2
  have core : ∀ H : Hp, Only H → SqL (K w.params) H a (ns.map V.int) → HOk l.prog w H s₁.heap → (∀ b, H b ≠ none → b = a) → (H a ≠ none → (K w.params).lookup a = none) →
      codeAny (model l.prog w) callerA (.call (.ref fa) ⟨[.ref a], []⟩) (fun r s' => r = .ok (.ret (.bool true)) ∧ OldK s₁.heap s'.heap ∧ s'.os = s₁.os ∧ AllBare s'.gens) s₁ := by
    intro H hO hS hok hA hK
    have free : ∀ {b : Addr} {o : Obj}, s₁.heap.get? b = some o → (b = a → False) → H b = none := fun {b o} e n => by
      cases z : H b with
      | none => rfl
      | some u => exact (n (hA b (by rw [z]; simp))).elim
    have nsK : ∀ {b : Addr} {m : Str → Option Value}, s₁.heap.Ns b m → (hidT s₁.heap H).Ns b m := fun {b m} ⟨o, es, ep, e, d, r⟩ => ⟨o, es, ep, hidT_get e (free e fun z => by
      subst z
      rw [hobj] at e; cases e
      exact nomatch (show Data.seq vs.toArray _ = Data.dict es ep from d)), d, r⟩
    have hKb : (K w.params).In (hidT s₁.heap H) := fun b o e => hidT_get (KX b o e) (by
      cases z : H b with
      | none => rfl
      | some u =>
        have e' : b = a := hA b (by rw [z]; simp)
        subst e'
        rw [hK (by rw [z]; simp)] at e; cases e)
    have hM : Mod (K w.params) mg (hidT s₁.heap H) := ⟨hKb, nsK G.T.g, ⟨mb, nsK G.T.b, G.T.builtins⟩, let ⟨mc, h1, h2⟩ := G.T.nolimit; ⟨mc, nsK h1, h2⟩⟩
    have e0 : Env0 l.prog w (K w.params) mg (hidT s₁.heap H) callerA [] s₁ H := ⟨rfl, hM, fun b o e => of_hidT e, Nat.le_of_eq (hidT_size _ _), trivial, fun b hb => absurd (show b ∈ ([] : List Addr) from hb) (by simp), hok, .of_eq hg⟩
    refine codeAny_mono ((hF _ hKb (nsK G.T.g)).run callerA [] s₁ H ⟨[.ref a], []⟩ [.ref a] [.ref a] _ _ rfl hr e0 (hb s₁ (.ref a)) (.cons rfl .nil) (hsp w H a ns hlen hO hS)) fun r s' h => ?_
    cases r with
    | error e => exact (hCX w H s₁ e s' h).elim
    | ok fl =>
      cases fl with
      | next => exact False.elim h
      | brk => exact False.elim h
      | cont => exact False.elim h
      | ret u =>
        obtain ⟨v, H', os, bare, un, hok', r', q⟩ := h
        cases (show v = .bl true from q)
        cases (show u = Value.bool true from r')
        refine ⟨rfl, OldK.of_keep fun b o e => ?_, os, bare⟩
        cases z : H b with
        | none => exact un.keep b o e z (by intro y; exact absurd (show b ∈ ([] : List Addr) from y) (by simp)) (by simp)
        | some u =>
          rcases hO b with y | ⟨ob, xs, y⟩
          · rw [z] at y; cases y
          · obtain ⟨e1, _⟩ := hok b _ y
            obtain ⟨e2, _⟩ := hok' b _ (un.frzs b ob _ y)
            rw [e] at e1; cases e1
            exact e2
  cases hk : (K w.params).lookup a with
  | some o =>
    have e := KX a o hk
    rw [hobj] at e
    cases e
    exact core (fun _ => none) (fun _ => .inl rfl) (.inr ⟨_, vs.toArray, _, hk, rfl, rfl, rfl, by rw [List.size_toArray, lenV]; exact hl, by simpa using rv⟩) (fun b u z => nomatch (show (none : Option HO) = some u from z)) (fun b z => absurd rfl z) fun z => absurd rfl z
  | none =>
    have at_a : lawHp a { cls := .type "list", data := .seq vs.toArray } (ns.map V.int) a = some (.frz { cls := .type "list", data := .seq vs.toArray } (.lst (ns.map V.int))) := if_pos rfl
    have off : ∀ b, b ≠ a → lawHp a { cls := .type "list", data := .seq vs.toArray } (ns.map V.int) b = none := fun b h => if_neg h
    refine core (lawHp a { cls := .type "list", data := .seq vs.toArray } (ns.map V.int)) (fun b => ?_) (.inl (.inr ⟨_, at_a⟩)) (fun b u z => ?_) (fun b z => ?_) fun _ => hk
    · by_cases hb : b = a
      · subst hb; exact .inr ⟨_, _, at_a⟩
      · exact .inl (off b hb)
    · by_cases hb : b = a
      · subst hb
        rw [at_a] at z; cases z
        exact ⟨hobj, by rw [List.length_map]; exact hl, vs, _, rv, hobj⟩
      · rw [off b hb] at z; cases z
    · by_cases hb : b = a
      · exact hb
      · exact absurd (off b hb) z
end Ol

namespace Ol
open PySem PySem.W PySem.Calls PyProof.Rows L2
/-! ### keywords -/
def perm {α : Type} (is : List Nat) (us ws : List α) : List α := us ++ is.filterMap fun i => ws[i]?
theorem vals_pick {zs : List V} {ws : List Value} (r : Vals zs ws) : ∀ is : List Nat, Vals (is.filterMap fun i => zs[i]?) (is.filterMap fun i => ws[i]?)
  | [] => .nil
  | i :: is => by
    rw [List.filterMap_cons, List.filterMap_cons]
    cases h : zs[i]? with
    | none => rw [r.none_of h]; exact vals_pick r is
    | some v =>
      obtain ⟨u, e, q⟩ := r.get h
      rw [e]
      exact .cons q (vals_pick r is)
theorem Fun.kbn {K : Frag} {x qual : Str} {st : Stmt} {f : Addr} {fd : FuncData} {ps ks : List Str} (F : Fun K x qual st f fd) (n : Nat) (is : List Nat)
    (h : ∀ (kV doc pm : Value) (an : Option Addr) (cdv ct : Value) (us ws : List Value), us.length = n → ws.length = ks.length → bindArgs (PySem.W.fnOf x qual (defArgs st) (defBody st) (defScope st) .none kV doc pm an cdv ct) ⟨us, ks.zip ws⟩ = pure (ps.zip (perm is us ws))) :
    KBn K fd ps n ks (perm is) (perm is) := by
  obtain ⟨oc, od, kV, doc, pm, an, cdv, ct, osl, rfl, lk, hcd⟩ := F.ex
  exact ⟨fun s us ws _ h1 h2 => .of_eq (h kV doc pm an cdv ct us ws h1 h2), fun r1 r2 => r1.append (vals_pick r2 is)⟩
/-- o.m(k = v, ..) -/
def tMethK (C : Addr) (m : Str) (n : Nat) (sp : Sp) (gV : List V → List V → List V) (E : XK) (ta : TE) (tk : TA) : TE := fun σ H Q => ta σ H fun x H1 => ∃ a dx fs, x = .ref a ∧ H1 a = some (.ins C dx fs) ∧ fs.lookup m = none ∧ tk σ H1 fun zs H2 => zs.length = n ∧ sp (gV [x] zs) H2 Q E
section
variable {X : Cx} {CX : CXT} {k n : Nat} {f C : Addr} {fd : FuncData} {ps ks : List Str} {sp : Sp} {E : XK} {x m : Str} {p pos apos : Pos} {o e : Expr} {es : List Expr} {kws : List Keyword} {ta : TE} {t tk : TA} {g : List Value → List Value → List Value} {gV : List V → List V → List V}
  {pins : List (Addr × Obj)} {σ : L2.St} {H : Hp} {s : Shared}
theorem run_kw {Q : VK} {us ws : List Value} {vs zs : List V} (F : FnOk X.prog X.w X.K X.mg X.base CX k f fd ps sp) (hr : Room k X.A) (hb : KBn X.K fd ps n ks g gV) (hx : Passes CX X E)
    (I : Inv X pins σ H s) (r : Vals vs us) (rz : Vals zs ws) (l1 : vs.length = n) (l2 : zs.length = ks.length) (h : sp (gV vs zs) H Q E) : wpAny (model X.prog X.w) X.A (call (.ref f) us (ks.zip ws)) (EP X pins σ Q) X.xe s := by
  refine wpAny_call (codeAny_mono (F.run X.A X.stack s H ⟨us, ks.zip ws⟩ (g us ws) (gV vs zs) Q E hr I.env0 (hb.to s us ws I.kIn (r.length.symm.trans l1) (rz.length.symm.trans l2)) (hb.rel r rz) h) fun r s' hq => ?_)
  cases r with
  | error e => exact hx pins σ H s e s' I hq
  | ok fl =>
    cases fl with
    | ret u => exact I.after hq
    | next => exact False.elim hq
    | brk => exact False.elim hq
    | cont => exact False.elim hq
theorem pe_methK0 {pl : Sem Bool} (he : PE X o ta) (c : Cls X.K C) (hm : Meth X.K C m f) (F : FnOk X.prog X.w X.K X.mg X.base CX k f fd ps sp) (hr : Room k X.A) (hb : KBn X.K fd ps 1 ks g gV) (hx : Passes CX X E) (hkw : PK X kws tk)
    (hall : (backToKw pos (keywordEach kws X.env)).all (·.1.isSome) = true := by rfl) (hks : (backToKw pos (keywordEach kws X.env)).filterMap (·.1) = ks := by rfl)
    (hpl : ((backTo pos (starEach [] X.env)).any (·.1) || (backToKw pos (keywordEach kws X.env)).any (·.1.isNone)) = false := by rfl)
    (ht : eval (.Call (.Attribute o m apos) [] kws pos) X.env = (do
      let ov ← eval o X.env
      standAt apos.atName
      let (f, first) ← holding [ov] (getMethod ov m pl)
      callWith pos f first (backTo pos (starEach [] X.env)) (backToKw pos (keywordEach kws X.env))) := by rfl) :
    PE X (.Call (.Attribute o m apos) [] kws pos) (tMethK C m ks.length sp gV E ta tk) := by
  refine ⟨fun pins s σ H Q I h => ?_⟩
  refine PySem.W.methodCall_KW (pl := pl) (thn (he.run pins s σ H _ I h) fun u s1 ⟨x, H1, I1, rx, a, dx, fs, ex, ea, l, q⟩ => ?_) ht
  subst ex
  cases (show u = Value.ref a from rx)
  refine getmeth_ok I1 ea c hm l ?_
  refine PySem.W.callWith_KW0 (first := [.ref a]) (h₀ := X.base) I.ok.mod.kin hm.kp hall ?_ hpl
  refine thn (hkw.run pos pins s1 σ H1 _ I1 q) fun ws s2 ⟨zs, H2, I2, rz, l2, q2⟩ => ⟨I2.kIn, ?_⟩
  rw [hks]
  exact run_kw (us := [.ref a]) (vs := [.ref a]) F hr hb hx I2 (.cons rfl .nil) rz rfl l2 q2
/-! ### a callee at another depth -/
theorem run_at {A : Around} {Er : Value → Shared → Prop} {Q : VK} {us : List Value} {vs : List V} (F : FnOk X.prog X.w X.K X.mg X.base CX k f fd ps sp) (hr : Room k A) (e0 : Env0 X.prog X.w X.K X.mg X.base A X.stack s H) (hb : Binds X.K fd ps [])
    (hx : ∀ e s', CX X.stack H s E e s' → Er e s') (I : Inv X pins σ H s) (r : Vals vs us) (h : sp vs H Q E) : wpAny (model X.prog X.w) A (call (.ref f) us) (EP X pins σ Q) Er s := by
  have hl : us.length = ps.length := by rw [← r.length]; exact F.len _ _ _ _ h
  have hb' := hb s us I.kIn (by rw [List.append_nil]; exact hl)
  rw [List.append_nil] at hb'
  refine wpAny_call (codeAny_mono (F.run A X.stack s H ⟨us, []⟩ us vs Q E hr e0 hb' r h) fun r s' hq => ?_)
  cases r with
  | error e => exact hx e s' hq
  | ok fl =>
    cases fl with
    | ret u => exact I.after hq
    | next => exact False.elim hq
    | brk => exact False.elim hq
    | cont => exact False.elim hq
/-- str(o), o an instance with its own __str__ -/
def rStrO (C : Addr) (sp : Sp) (E : XK) : List V → Hp → VK → Prop := fun xs H Q => ∃ a dx fs, xs = [.ref a] ∧ H a = some (.ins C dx fs) ∧ sp [.ref a] H (fun v H' => ∃ z, v = .str z ∧ Q (.str z) H') E
theorem call_strO (R : Meth X.K C "__str__" f) (F : FnOk X.prog X.w X.K X.mg X.base CX k f fd ps sp) (hr : Room (k + 2) X.A) (hb : Binds X.K fd ps []) (hx : Passes CX X E) : CallR X (.type "str") (rStrO C sp E) := by
  intro pins s σ H xs us Q I r h
  obtain ⟨a, dx, fs, rfl, ea, q⟩ := h
  obtain ⟨u, rfl, ru⟩ := vals1 r
  cases (show u = Value.ref a from ru)
  obtain ⟨mA, O, _⟩ := ins_get I.hok ea
  obtain ⟨od, J, _⟩ := O.look
  refine kso_call hr.in1.in1.units0 I.kIn J R.at_ R.fn ?_
  refine wpAny_mono (run_at (us := [.ref a]) (vs := [.ref a]) F hr.in1.in1 I.env0.in1.in1 hb (fun e s' => hx pins σ H s e s' I) I (.cons rfl .nil) q) (fun v s' hv => ?_) fun _ _ z => z
  obtain ⟨v', H', I', r', z, rfl, q'⟩ := hv
  obtain ⟨t, rfl⟩ := r'
  exact ⟨.str z, H', I', ⟨t, rfl⟩, q'⟩
/-! ### == where the right one has the method -/
/-- the __eq__ of a built-in type lets an instance be -/
def LetsEq (T id : String) : Prop := ∀ (prog : Program) (w : World) (A : Around) (E : Value → Shared → Prop) (s : Shared) (y : Value) (x C dx : Addr) (Q : Value → Shared → Prop),
  s.TypeIs y T → s.heap.get? x = some (instObj C dx) → Q .notImplemented s → wpAny (model prog w) A (call (.builtin id) [y, .ref x]) Q E s
end
end Ol

namespace Ol
open PySem PySem.W PySem.Calls PyProof.Rows L2
section
variable {prog : Program} {w : World} {A : Around} {E : Value → Shared → Prop} {s : Shared} {x C dx : Addr} {Q : Value → Shared → Prop}
theorem dec_eq_int {i : Int} {t : Tok} (hx : s.heap.get? x = some (instObj C dx)) (h : Q .notImplemented s) : wpAny (model prog w) A (call (.builtin "int.__eq__") [.int i t, .ref x]) Q E s := by
  refine wpAny_call_entry F.slot_int_eq (typeIs_int s i t) F.entry_int_eq ?_ (F.args_int_eq_2 _ _)
  obtain ⟨hp, g, d, tk, os⟩ := s
  unfold Builtin.«int.__eq__»
  wp_walk
  exact ⟨_, rfl, h⟩
theorem dec_eq_str {i : Str} {t : Tok} (hx : s.heap.get? x = some (instObj C dx)) (h : Q .notImplemented s) : wpAny (model prog w) A (call (.builtin "str.__eq__") [.str i t, .ref x]) Q E s := by
  refine wpAny_call_entry F.slot_str_eq (typeIs_str s i t) F.entry_str_eq ?_ (F.args_str_eq_2 _ _)
  obtain ⟨hp, g, d, tk, os⟩ := s
  unfold Builtin.«str.__eq__»
  wp_walk
  exact ⟨_, rfl, h⟩
theorem dec_eq_none (hx : s.heap.get? x = some (instObj C dx)) (h : Q .notImplemented s) : wpAny (model prog w) A (call (.builtin "NoneType.__eq__") [.none, .ref x]) Q E s := by
  refine wpAny_call_entry F.slot_NoneType_eq (show s.TypeIs .none "NoneType" from rfl) F.entry_NoneType_eq ?_ (F.args_NoneType_eq_2 _ _)
  obtain ⟨hp, g, d, tk, os⟩ := s
  unfold Builtin.«NoneType.__eq__»
  wp_walk
  exact ⟨_, rfl, h⟩
theorem dec_eq_list {l : Addr} {o : Obj} {vs : Array Value} {n : Nat} (hl : s.heap.get? l = some o) (hc : o.cls = .type "list") (hd : o.data = .seq vs n) (hx : s.heap.get? x = some (instObj C dx)) (hsub : Looks (model prog w) s.heap (isSubtype (.ref C) (.type "list")) false) (h : Q .notImplemented s) : wpAny (model prog w) A (call (.builtin "list.__eq__") [.ref l, .ref x]) Q E s := by
  refine wpAny_call_entry F.slot_list_eq (show s.TypeIs (.ref l) "list" from ⟨o, hl, hc⟩) F.entry_list_eq ?_ (F.args_list_eq_2 _ _)
  obtain ⟨hp, g, d, tk, os⟩ := s
  obtain ⟨c, dd, da, sl⟩ := o
  cases hc
  cases hd
  unfold Builtin.«list.__eq__»
  wp_walk
  refine hsub.at ?_
  wp_walk
  exact ⟨_, rfl, h⟩
theorem dec_eq_tuple {l : Addr} {o : Obj} {vs : Array Value} {n : Nat} (hl : s.heap.get? l = some o) (hc : o.cls = .type "tuple") (hd : o.data = .seq vs n) (hx : s.heap.get? x = some (instObj C dx)) (hsub : Looks (model prog w) s.heap (isSubtype (.ref C) (.type "tuple")) false) (h : Q .notImplemented s) : wpAny (model prog w) A (call (.builtin "tuple.__eq__") [.ref l, .ref x]) Q E s := by
  refine wpAny_call_entry F.slot_tuple_eq (show s.TypeIs (.ref l) "tuple" from ⟨o, hl, hc⟩) F.entry_tuple_eq ?_ (F.args_tuple_eq_2 _ _)
  obtain ⟨hp, g, d, tk, os⟩ := s
  obtain ⟨c, dd, da, sl⟩ := o
  cases hc
  cases hd
  unfold Builtin.«tuple.__eq__»
  wp_walk
  refine hsub.at ?_
  wp_walk
  exact ⟨_, rfl, h⟩
/-- y == x, y of a built-in type that lets x be, x an instance with the method f -/
theorem eq_right {K : Frag} {f : Addr} {ox : Obj} {od : Option Obj} {y : Value} {T id : String} (hu : A.units < cLine) (X : K.In s.heap) (I : InstAt s.heap x ox C od) (hy : s.TypeIs y T) (hty : Looks (model prog w) s.heap (typeOf y) (.type T)) (ho : oneThing? .Eq y (.ref x) = none) (sl : Slot T (cmpInfo .Eq).2.1 id)
    (dec : ∀ Q' : Value → Shared → Prop, Q' .notImplemented s → wpAny (model prog w) A (call (.builtin id) [y, .ref x]) Q' E s) (hsub : subIn K (.ref C) (.type T) = some false) (at_ : findIn K (.ref C) "__eq__" = some (some (.ref f))) (hf : isFn K (.ref f) = true)
    (h : wpAny (model prog w) A (call (.ref f) [.ref x, y]) (W.CmpBack Q) E s) : wpAny (model prog w) A (richCompare .Eq y (.ref x)) Q E s := by
  have one : wpAny (model prog w) A (tryCompare (.ref x) "__eq__" y) (fun r s' => ∃ v, r = some v ∧ Q v s') E s := by
    unfold tryCompare
    refine wpAny_bind (ifBound_K X I at_ hf (wpAny_mono h (fun v s' hv => ?_) fun _ _ e => e))
    cases v <;> first | exact hv.elim | exact wpAny_pure ⟨_, rfl, hv⟩
  unfold richCompare
  simp only [ho]
  refine wpAny_holding (wpAny_bind (wpAny_cRoomFor hu ?_))
  refine wpAny_bind (hty.here (wpAny_bind (I.type.here ?_)))
  rw [if_pos (show (Value.type T != Value.ref C) = true by simp)]
  refine wpAny_bind ((looks_subIn X hsub).here ?_)
  simp only [Bool.false_eq_true, if_false]
  refine wpAny_bind (wpAny_tryCompare_declines hy sl (dec _ ⟨rfl, ?_⟩))
  simp only [Bool.not_false, if_true]
  refine wpAny_bind (wpAny_mono one (fun r s' z => ?_) fun _ _ e => e)
  obtain ⟨v, rfl, hq⟩ := z
  exact wpAny_pure hq
/-- what x == y and x in [..] ask of an instance beside a built-in value -/
inductive EqBy (K : Frag) (C : Addr) (H : Hp) : V → Prop where
  | int (i : Int) (h : subIn K (.ref C) (.type "int") = some false) : EqBy K C H (.int i)
  | str (z : Str) (h : subIn K (.ref C) (.type "str") = some false) : EqBy K C H (.str z)
  | non (h : subIn K (.ref C) (.type "NoneType") = some false) : EqBy K C H .non
  | lst {a : Addr} {xs : List V} (e : H a = some (.lst xs)) (h : subIn K (.ref C) (.type "list") = some false) : EqBy K C H (.ref a)
  | tup {a : Addr} {xs : List V} (e : H a = some (.tup xs)) (h : subIn K (.ref C) (.type "tuple") = some false) : EqBy K C H (.ref a)
theorem EqBy.same {K : Frag} {H H' : Hp} {v : V} (e : EqBy K C H v) (s : Same H H') : EqBy K C H' v := by
  cases e with
  | int i h => exact .int i h
  | str z h => exact .str z h
  | non h => exact .non h
  | lst e h => exact .lst (s _ _ e) h
  | tup e h => exact .tup (s _ _ e) h
end
section
variable {X : Cx} {CX : CXT} {k : Nat} {C f a dx : Addr} {fs : List (Str × V)} {fd : FuncData} {ps : List Str} {sp : Sp} {E : XK} {pins : List (Addr × Obj)} {σ : L2.St} {H : Hp} {s : Shared}
/-- y == o by the __eq__ of o -/
theorem rich_right {A : Around} {Er : Value → Shared → Prop} {y : V} {u : Value} {Q : VK} (at_ : findIn X.K (.ref C) "__eq__" = some (some (.ref f))) (hfn : isFn X.K (.ref f) = true) (Fn : FnOk X.prog X.w X.K X.mg X.base CX k f fd ps sp) (hr : Room k A) (e0 : Env0 X.prog X.w X.K X.mg X.base A X.stack s H)
    (hb : Binds X.K fd ps []) (hx : ∀ e s', CX X.stack H s E e s' → Er e s') (I : Inv X pins σ H s) (ea : H a = some (.ins C dx fs)) (ry : RelV y u) (ey : EqBy X.K C H y) (h : sp [.ref a, y] H Q E) :
    wpAny (model X.prog X.w) A (richCompare .Eq u (.ref a)) (EP X pins σ Q) Er s := by
  obtain ⟨mA, O, _⟩ := ins_get I.hok ea
  obtain ⟨od, J, _⟩ := O.look
  have run : wpAny (model X.prog X.w) A (call (.ref f) [.ref a, u]) (W.CmpBack (EP X pins σ Q)) Er s :=
    wpAny_mono (run_at (us := [.ref a, u]) (vs := [.ref a, y]) Fn hr e0 hb hx I (.cons rfl (.cons ry .nil)) h) (fun _ _ z => back_ep z) fun _ _ z => z
  cases ey with
  | int i hs =>
    obtain ⟨t, rfl⟩ := ry
    exact eq_right hr.units0 I.kIn J (typeIs_int s i t) (.of_pure rfl) rfl F.slot_int_eq (fun _ q => dec_eq_int O.obj q) hs at_ hfn run
  | str z hs =>
    obtain ⟨t, rfl⟩ := ry
    exact eq_right hr.units0 I.kIn J (typeIs_str s z t) (.of_pure rfl) rfl F.slot_str_eq (fun _ q => dec_eq_str O.obj q) hs at_ hfn run
  | non hs =>
    cases (show u = Value.none from ry)
    exact eq_right hr.units0 I.kIn J (show s.TypeIs .none "NoneType" from rfl) (.of_pure rfl) rfl F.slot_NoneType_eq (fun _ q => dec_eq_none O.obj q) hs at_ hfn run
  | @lst l xs el hs =>
    cases (show u = Value.ref l from ry)
    obtain ⟨_, _, n, _, h1⟩ := (show ObjOk X.prog X.w H s.heap l (.lst xs) from I.hok l _ el)
    exact eq_right hr.units0 I.kIn J (show s.TypeIs (.ref l) "list" from ⟨_, h1, rfl⟩) (looks_ty (x := .ref l) I rfl (.base (.lst el))) rfl F.slot_list_eq (fun _ q => dec_eq_list h1 rfl rfl O.obj (looks_subIn I.kIn hs) q) hs at_ hfn run
  | @tup l xs el hs =>
    cases (show u = Value.ref l from ry)
    obtain ⟨_, _, _, o, h1, h2, n, h3⟩ := (show ObjOk X.prog X.w H s.heap l (.tup xs) from I.hok l _ el)
    exact eq_right hr.units0 I.kIn J (show s.TypeIs (.ref l) "tuple" from ⟨_, h1, h2⟩) (looks_ty (x := .ref l) I rfl (.base (.tup el))) rfl F.slot_tuple_eq (fun _ q => dec_eq_tuple h1 h2 h3 O.obj (looks_subIn I.kIn hs) q) hs at_ hfn run
end
end Ol

namespace Ol
open PySem PySem.W PySem.Calls PyProof.Rows L2
open AutoSeq1 (wpAny_loadPart')
open MeetsSeq MeetsSeq2 MeetsSeq3 SeqRoads2
section
variable {prog : Program} {w : World}
/-- x in a list none of whose items is equal to x, where == runs own code -/
theorem contains_loopJ (l : Addr) (items : Array Value) (n : Nat) (dd : Option Addr) (sl : Array (Option Value)) (x : Value) (A : Around) (R : Result → Shared → Prop) (J : Shared → Prop)
    (hl : ∀ s, J s → s.heap.get? l = some { cls := .type "list", dict := dd, data := .seq items n, slots := sl })
    (he : ∀ y, y ∈ items → ∀ s, J s → ∀ Q : Bool → Shared → Prop, (∀ s', J s' → Q false s') → wpAny (model prog w) A.in1 (eqBool y x) Q (fun e s' => R (.error e) s') s)
    (hR : ∀ s, J s → R (.ok (.ret (.bool false))) s) (k : Nat) :
    ∀ i : Nat, items.size - i = k → ∀ s, J s → wpAny (model prog w) A.in1 (Builtin.«list.__contains__.loop» ⟨[.ref l, x, rawInt i], []⟩) (fun fin s' => match fin with | .done f => R (.ok f) s' | .again c' => c'.quiet = true ∧ codeAny (model prog w) A c' R s') (fun e s' => R (.error e) s') s := by
  induction k with
  | zero =>
    intro i hk s h
    have hl' := hl s h
    have hr := hR s h
    obtain ⟨hp, g, d, tk, os⟩ := s
    wp_walk using wpAny_loadPart' hl'
    have hi : items[((i : Nat) : Int).toNat]? = none := by simp; omega
    rw [hi]
    wp_walk
    exact hr
  | succ k ih =>
    intro i hk s h
    have hl' := hl s h
    have he' : ∀ y, y ∈ items → ∀ Q : Bool → Shared → Prop, (∀ s', J s' → Q false s') → wpAny (model prog w) A.in1 (eqBool y x) Q (fun e s' => R (.error e) s') s := fun y hy => he y hy s h
    obtain ⟨hp, g, d, tk, os⟩ := s
    wp_walk using wpAny_loadPart' hl'
    have hlt : i < items.size := by omega
    have hi : items[((i : Nat) : Int).toNat]? = some items[i] := by simp [hlt]
    rw [hi]
    refine wpAny_bind (he' _ (Array.getElem_mem hlt) _ fun s' h' => ?_)
    obtain ⟨hp, g, d, tk, os⟩ := s'
    have hc : ((i : Int) + 1) = ((i + 1 : Nat) : Int) := by push_cast; rfl
    wp_walk
    rw [hc]
    exact ⟨plainId_quiet plain_contains_loop _, codeAny_builtin entry_contains_loop (by
      rw [Around.under_plainId plain_contains_loop _]
      exact ih (i + 1) (by omega) _ h')⟩
theorem in_listJ {l : Addr} {items : Array Value} {n : Nat} {dd : Option Addr} {sl : Array (Option Value)} {x : Value} {A : Around} {E : Value → Shared → Prop} {Q : Value → Shared → Prop} {s : Shared} (J : Shared → Prop) (h : J s)
    (hl : ∀ s, J s → s.heap.get? l = some { cls := .type "list", dict := dd, data := .seq items n, slots := sl })
    (he : ∀ y, y ∈ items → ∀ s, J s → ∀ Q : Bool → Shared → Prop, (∀ s', J s' → Q false s') → wpAny (model prog w) A.in1 (eqBool y x) Q E s)
    (hq : ∀ s, J s → Q (.bool false) s) : wpAny (model prog w) A (compareOp .In x (.ref l)) Q E s := by
  show wpAny _ _ (do return .bool (← contains (.ref l) x)) Q E s
  refine wpAny_bind (wpAny_contains_slot ⟨_, hl s h, rfl⟩ F.slot_list_contains ?_)
  refine wpAny_call (codeAny_call_builtin F.slot_list_contains.plain F.entry_list_contains (F.slot_list_contains.check _ _ _ _ _ _ _ _ ⟨_, hl s h, rfl⟩ (F.args_list_contains_2 _ _) ?_))
  have hl' := hl s h
  have go := contains_loopJ (prog := prog) (w := w) l items n dd sl x A (wants (fun r s' => wpAny (model prog w) A (truthy r) (fun a s' => wpAny (model prog w) A (pure (Value.bool a)) Q E s') E s') E) J hl he (fun s h => wpAny_truthy_bool (wpAny_pure (hq s h))) _ 0 rfl s h
  obtain ⟨hp, g, d, tk, os⟩ := s
  wp_walk using wpAny_loadPart' hl'
  exact ⟨plainId_quiet plain_contains_loop _, codeAny_builtin entry_contains_loop (by
    rw [Around.under_plainId plain_contains_loop _]
    exact go)⟩
end
section
variable {X : Cx} {CX : CXT} {k : Nat} {C f a dx : Addr} {fs : List (Str × V)} {fd : FuncData} {ps : List Str} {sp : Sp} {E : XK} {pins : List (Addr × Obj)} {σ : L2.St} {H : Hp} {s : Shared}
theorem vals_mem {xs : List V} {us : List Value} (r : Vals xs us) : ∀ y ∈ us, ∃ z ∈ xs, RelV z y := by
  induction r with
  | nil => intro y hy; cases hy
  | cons r t ih =>
    intro y hy
    rcases List.mem_cons.mp hy with rfl | hy
    · exact ⟨_, List.mem_cons_self, r⟩
    · obtain ⟨z, h1, h2⟩ := ih y hy
      exact ⟨z, List.mem_cons_of_mem _ h1, h2⟩
/-- x in a list of built-in values, x an instance; its __eq__ says False of each and leaves the heap -/
def rInNo (K : Frag) (C : Addr) (sp : Sp) (E : XK) : R2 := fun x y H Q => ∃ a l xs, x = .ref a ∧ y = .ref l ∧ H l = some (.lst xs) ∧
  (∀ od, ∀ z ∈ xs, EqBy K C (upd H l (.frz od (.lst xs))) z ∧ z ≠ .ref a ∧ (∃ dx fs, upd H l (.frz od (.lst xs)) a = some (.ins C dx fs)) ∧ ∀ Q' : VK, Q' (.bl false) (upd H l (.frz od (.lst xs))) → sp [.ref a, z] (upd H l (.frz od (.lst xs))) Q' E) ∧ Q (.bl false) H
theorem op_inNo (at_ : findIn X.K (.ref C) "__eq__" = some (some (.ref f))) (hfn : isFn X.K (.ref f) = true) (Fn : FnOk X.prog X.w X.K X.mg X.base CX k f fd ps sp) (hr : Room (k + 1) X.A)
    (hb : Binds X.K fd ps []) (hx : Passes CX X E) : OpR X (compareOp .In) (rInNo X.K C sp E) := by
  intro pins s σ H x y v u Q I rx ry h
  obtain ⟨a, l, xs, rfl, rfl, el, hz, q⟩ := h
  cases (show v = Value.ref a from rx)
  cases (show u = Value.ref l from ry)
  have nf := I.nofrz el (by trivial)
  obtain ⟨od, I1⟩ := I.lock el (by trivial)
  have hz := hz od
  have e1 : upd H l (.frz od (.lst xs)) l = some (.frz od (.lst xs)) := upd_same
  have back : ∀ s', Inv X pins σ (upd H l (.frz od (.lst xs))) s' → Inv X pins σ H s' := fun s' I' => by
    have z := I'.unlock e1 nf
    have e : upd (upd H l (.frz od (.lst xs))) l (.lst xs) = H := by
      funext b
      by_cases hb : b = l
      · subst hb; rw [upd_same, el]
      · rw [upd_ne hb, upd_ne hb]
    rwa [e] at z
  obtain ⟨ho, _, us, n, r, h1⟩ := (show ObjOk X.prog X.w _ s.heap l (.frz od (.lst xs)) from I1.hok l _ e1)
  have hod := Option.some.inj (ho.symm.trans h1)
  refine in_listJ (items := us.toArray) (n := n) (dd := none) (sl := #[]) (fun s' => Inv X pins σ (upd H l (.frz od (.lst xs))) s') I1 (fun s' J => ?_) (fun y hy s' J Q' hq => ?_) fun s' J => ⟨.bl false, H, back s' J, rfl, q⟩
  · rw [← hod]
    exact (show ObjOk X.prog X.w _ s'.heap l (.frz od (.lst xs)) from J.hok l _ e1).1
  · obtain ⟨z, hz1, ry⟩ := vals_mem r y (by simpa using hy)
    obtain ⟨by1, ne, ⟨dx, fs, ea⟩, hsp⟩ := hz z hz1
    have hne : (y == Value.ref a) = false := Bool.eq_false_iff.mpr fun e => by
      cases beq_iff_eq.mp e
      cases z with
      | ref b => cases (show Value.ref a = Value.ref b from ry); exact ne rfl
      | _ => first | (obtain ⟨t, e⟩ := ry; cases e) | cases ry
    unfold eqBool
    refine wpAny_holding ?_
    rw [hne]
    simp only [Bool.false_eq_true, if_false]
    have go := rich_right (Er := X.xe) at_ hfn Fn hr.in1 J.env0.in1 hb (fun e s'' => hx pins σ _ s' e s'' J) J ea ry by1 (Q := fun v H' => v = .bl false ∧ H' = upd H l (.frz od (.lst xs))) (hsp _ ⟨rfl, rfl⟩)
    have fin : wpAny (model X.prog X.w) X.A.in1 (richCompare .Eq y (.ref a) >>= truthOfDropped) Q' X.xe s' := by
      refine wpAny_bind (wpAny_mono go (fun v s'' hv => ?_) fun _ _ z => z)
      obtain ⟨v', H', I', r', rfl, rfl⟩ := hv
      cases (show v = Value.bool false from r')
      exact wpAny_truthy_bool (hq _ I')
    cases y <;> exact fin
end
end Ol

namespace Ol
open PySem PySem.Spec PyProof.Rows L2
def spDayEq2 (K : PySem.W.Frag) (C : Addr) : Sp := fun vs H Q _ => ∃ (a : Addr) (y : V) (L : Int), vs = [.ref a, y] ∧ DayAt C H a L ∧ ((∃ (b : Addr) (M : Int), y = .ref b ∧ DayAt C H b M ∧ Q (.bl (decide (L = M))) H) ∨ (∃ t, TyX K H y t ∧ PySem.W.kitOne K t (.ref C) = some false ∧ Q (.bl false) H))
def spDayIn (K : PySem.W.Frag) (C : Addr) : Sp := fun vs H Q _ => ∃ (a : Addr) (x : V) (L : Int), vs = [.ref a, x] ∧ DayAt C H a L ∧ ((∃ i, x = .int i ∧ Q (.bl (decide (0 ≤ i ∧ i ≤ L - 1))) H) ∨ (NoInt K H x ∧ Q (.bl false) H))
def spDayStr (C : Addr) : Sp := fun vs H Q _ => ∃ (a : Addr) (L : Int), vs = [.ref a] ∧ DayAt C H a L ∧ Q (.str (toString L)) H
section
variable {K : PySem.W.Frag} {C a b : Addr} {H : Hp} {Q : VK} {E : XK} {L M m n k : Int} {R : Prop} {x : V}
theorem r_deq2 (I : IsC K C) (d : DayAt C H a L) (e : DayAt C H b M) (q : Q (.bl (decide (L = M))) H) : rCmpO K C (spDayEq2 K C) E (.ref a) (.ref b) H Q := by
  obtain ⟨_, dx, h⟩ := id d
  obtain ⟨_, dy, h2⟩ := id e
  exact ⟨a, dx, _, _, rfl, h, I.ty h2, notFirst_self, a, _, L, rfl, d, .inl ⟨b, M, rfl, e, q⟩⟩
theorem r_dne2 (I : IsC K C) (d : DayAt C H a L) (e : DayAt C H b M) (q : Q (.bl (!decide (L = M))) H) : rNeO K C (spDayEq2 K C) E (.ref a) (.ref b) H Q := by
  obtain ⟨_, dx, h⟩ := id d
  obtain ⟨_, dy, h2⟩ := id e
  exact ⟨a, dx, _, _, rfl, h, I.ty h2, notFirst_self, a, _, L, rfl, d, .inl ⟨b, M, rfl, e, _, rfl, q⟩⟩
theorem r_din {g : Bool → Bool} {i : Int} (d : DayAt C H a L) (q : Q (.bl (g (decide (0 ≤ i ∧ i ≤ L - 1)))) H) : rInO C (spDayIn K C) E g (.int i) (.ref a) H Q := by
  obtain ⟨_, dx, h⟩ := id d
  exact ⟨a, dx, _, rfl, h, a, _, L, rfl, d, .inl ⟨i, rfl, _, rfl, q⟩⟩
theorem r_dinN {g : Bool → Bool} (d : DayAt C H a L) (n : NoInt K H x) (q : Q (.bl (g false)) H) : rInO C (spDayIn K C) E g x (.ref a) H Q := by
  obtain ⟨_, dx, h⟩ := id d
  exact ⟨a, dx, _, rfl, h, a, _, L, rfl, d, .inr ⟨n, _, rfl, q⟩⟩
theorem r_dstr (d : DayAt C H a L) (q : Q (.str (toString L)) H) : rStrO C (spDayStr C) E [.ref a] H Q := by
  obtain ⟨_, dx, h⟩ := id d
  exact ⟨a, dx, _, rfl, h, a, L, rfl, d, _, rfl, q⟩
theorem r_cat {l b : Addr} {xs zs : List V} (h1 : H l = some (.lst xs)) (h2 : H b = some (.lst zs)) (hz : Nat.ble (xs.length + zs.length) 1000 = true) (q : ∀ p, H p = none → Q (.ref p) (upd H p (.lst (xs ++ zs)))) : rCat (.ref l) (.ref b) H Q :=
  ⟨l, b, xs, zs, rfl, rfl, h1, h2, Nat.le_trans (Nat.le_of_ble_eq_true hz) (by decide), q⟩
theorem Fun.okN {P : Program} {w : World} {mg : Str → Option Value} {base : Heap} {x qual : Str} {st : Stmt} {f : Addr} {fd : FuncData} {N ps : List Str} {k : Nat} {sp : Sp} (F : Fun K x qual st f fd) (S : FnScope N ps (defScope st)) (len : ∀ vs H Q E, sp vs H Q E → vs.length = ps.length)
    (hbody : ∀ (cdv : Value) (A : Around) (outer : List Env) (s : Shared) (H : Hp) (vs : List V) (Q : VK) (E : XK), (A.deeper (envOfC qual (defScope st) s.heap.objs.size f cdv)).guards = some [] → Room k (A.deeper (envOfC qual (defScope st) s.heap.objs.size f cdv)) → sp vs H Q E →
      ∃ t, PSs (cxOf CX0 P w K mg base N qual (defScope st) f cdv A outer s H E).nox (defBody st) t ∧ t { nx := fun _ H' => Q .non H', rt := Q } (L2.start N vs) H) : FnG P w K mg base CX0 (k + 1) f fd ps sp :=
  Fun.okG F S len fun cdv A outer s H vs Q E hg hr hsp => let ⟨t, h, q⟩ := hbody cdv A outer s H vs Q E hg hr hsp; ⟨t, h.nox, q⟩
/-! ### values that are no ints -/
theorem NoInt.non : NoInt K H .non := ⟨_, _, .base .non, kit_ty (r := false) (by decide +kernel), fun z => by cases z⟩
theorem NoInt.bl (b : Bool) : NoInt K H (.bl b) := ⟨_, _, .base (.bl b), kit_bool_int, fun _ => kit_bool_bool⟩
theorem NoInt.str (z : Str) : NoInt K H (.str z) := ⟨_, _, .base (.str z), kit_ty (r := false) (by decide +kernel), fun z => by cases z⟩
theorem NoInt.lst {xs : List V} (h : H a = some (.lst xs)) : NoInt K H (.ref a) := ⟨_, _, .base (.lst h), kit_ty (r := false) (by decide +kernel), fun z => by cases z⟩
theorem NoInt.tup {xs : List V} (h : H a = some (.tup xs)) : NoInt K H (.ref a) := ⟨_, _, .base (.tup h), kit_ty (r := false) (by decide +kernel), fun z => by cases z⟩
theorem NoInt.dK {kvs : List (Key × V)} (h : H a = some (.dK kvs)) : NoInt K H (.ref a) := ⟨_, _, .base (.dK h), kit_ty (r := false) (by decide +kernel), fun z => by cases z⟩
theorem NoInt.own {dx : Addr} {fs : List (Str × V)} (I : IsC K C) (hk : PySem.W.kitOne K (.ref C) (.type "int") = some false) (h : H a = some (.ins C dx fs)) : NoInt K H (.ref a) := ⟨_, _, I.ty h, hk, fun z => by cases z⟩
end
end Ol

namespace Ol
open PySem PySem.Spec PyProof.Rows L2
section
variable {K : PySem.W.Frag} {σ : L2.St} {H : Hp} {Q : VK} {ta tb tc te : TE} {t u : TT} {ts us : TS} {tr tk : TA} {D : Ends} {v x y : V} {i j : Int} {C : Addr} {E : XK} {sp : Sp} {n m : Nat} {gV : List V → List V → List V}
theorem t_methK {f : Str} (h : ta σ H fun x H1 => ∃ a dx fs, x = .ref a ∧ H1 a = some (.ins C dx fs) ∧ fs.lookup f = none ∧ tk σ H1 fun zs H2 => zs.length = n ∧ sp (gV [x] zs) H2 Q E) : tMethK C f n sp gV E ta tk σ H Q := h
theorem t_makeK (h : tr σ H fun vs H1 => tk σ H1 fun zs H2 => vs.length = n ∧ zs.length = m ∧ ∀ x dx, H2 x = none → H2 dx = none → dx ≠ x → sp (gV (.ref x :: vs) zs) (upd (upd H2 dx (.own x)) x (.ins C dx [])) (fun v H3 => v = .non ∧ Q (.ref x) H3) E) : tMakeK C n m sp gV E tr tk σ H Q := h
theorem t_cval {f : Str} (h : ta σ H fun x H1 => ∃ C mc v u, x = .ref C ∧ ClX.CRead K C mc ∧ ClX.CVal K C mc f v u ∧ Q v H1) : ClX.tCVal K ta f σ H Q := h
theorem r_eqS1 {a b : Str} (h : a = b) (q : Q (.bl true) H) : rEq (.str a) (.str b) H Q := r_eqS (by rw [decide_eq_true h]; exact q)
theorem r_neS1 {a b : Str} (h : a = b) (q : Q (.bl false) H) : rNe (.str a) (.str b) H Q := r_neS (by rw [decide_eq_true h]; exact q)
theorem r_eqSame {d : PyData} (h1 : Dp K H x d) (h2 : Dp K H y d) (hs : SeqAt.shaped d = true) (q : Q (.bl true) H) : rEqD K x y H Q :=
  ⟨d, d, h1, h2, hs, hs, by rw [SeqAt.eqv_refl d (SeqAt.canLay_of_shaped hs)]; exact q⟩
theorem r_neSame {d : PyData} (h1 : Dp K H x d) (h2 : Dp K H y d) (hs : SeqAt.shaped d = true) (q : Q (.bl false) H) : rNeD K x y H Q :=
  ⟨d, d, h1, h2, hs, hs, by rw [SeqAt.eqv_refl d (SeqAt.canLay_of_shaped hs)]; exact q⟩
theorem eqv_ints : ∀ ns ms : List Int, PyData.eqvAll (ns.map PyData.int) (ms.map PyData.int) = decide (ns = ms)
  | [], [] => by simp [PyData.eqvAll]
  | [], _ :: _ => by simp [PyData.eqvAll]
  | _ :: _, [] => by simp [PyData.eqvAll]
  | a :: r, b :: s => by
    rw [List.map_cons, List.map_cons, PyData.eqvAll, PyData.eqv, eqv_ints r s]
    by_cases h1 : a = b <;> by_cases h2 : r = s <;> simp [h1, h2]
theorem r_eqInts {p q : Addr} {ns ms : List Int} (h1 : SqL K H p (ns.map V.int)) (h2 : SqL K H q (ms.map V.int)) (h : Q (.bl (decide (ns = ms))) H) : rEqD K (.ref p) (.ref q) H Q :=
  ⟨_, _, .lst h1 (dpAll_ints ns), .lst h2 (dpAll_ints ms), PySem.W.ke_shaped_ints ns, PySem.W.ke_shaped_ints ms, by rw [PyData.eqv, eqv_ints]; exact h⟩
theorem r_neInts {p q : Addr} {ns ms : List Int} (h1 : SqL K H p (ns.map V.int)) (h2 : SqL K H q (ms.map V.int)) (h : Q (.bl (!decide (ns = ms))) H) : rNeD K (.ref p) (.ref q) H Q :=
  ⟨_, _, .lst h1 (dpAll_ints ns), .lst h2 (dpAll_ints ms), PySem.W.ke_shaped_ints ns, PySem.W.ke_shaped_ints ms, by rw [PyData.eqv, eqv_ints]; exact h⟩
theorem r_reprI (h : i.natAbs < 10 ^ 75) (q : Q (.str (PyData.int i).shown) H) : rRepr K [.int i] H Q := ⟨_, _, 76, rfl, .int i, (Sh.int h).le (by decide) (by decide), by decide, q⟩
theorem r_reprL2 {z : Addr} (hz : SqL K H z [.int i, .int j]) (h1 : i.natAbs < 10 ^ 75) (h2 : j.natAbs < 10 ^ 75) (q : Q (.str (PyData.list [.int i, .int j]).shown) H) : rRepr K [.ref z] H Q :=
  ⟨_, _, _, rfl, .lst hz (.cons (.int i) (.cons (.int j) .nil)), (Sh.list (n := 76) (k := 0) fun d hd => by
    rcases List.mem_cons.mp hd with rfl | hd
    · exact Sh.int h1
    · cases List.mem_singleton.mp hd; exact Sh.int h2).le (m := 200) (show 2 * 76 + 2 * 2 + 3 ≤ 200 by decide) (by decide), by decide, q⟩
theorem if_mk {b : Bool} (R : V → Hp → Prop) (h1 : b = true → ∀ Q : VK, (∀ v H', R v H' → Q v H') → ta σ H Q) (h2 : b = false → ∀ Q : VK, (∀ v H', R v H' → Q v H') → tb σ H Q) (h : ∀ v H', R v H' → Q v H') : if b = true then ta σ H Q else tb σ H Q := by
  cases b with
  | true => exact h1 rfl Q h
  | false => exact h2 rfl Q h
theorem strOk_of (z : String) : PyData.strOk (Str.ofString z) = true := by
  rw [Str.ofString_eq_toList]
  unfold PyData.strOk
  rw [Array.all_eq_true']
  intro a ha
  simp only [List.mem_toArray, List.mem_map] at ha
  obtain ⟨c, _, rfl⟩ := ha
  have := c.valid
  refine decide_eq_true ?_
  rcases c.valid with h | h
  · have h' : c.toNat < 0xd800 := h
    omega
  · have h' : c.toNat < 0x110000 := h.2
    omega
/-! ### comprehensions -/
def LcW (J : L2.It) (g : TG) (tt : TT) (te : TE) (vs : List Nat) (σ : L2.St) (H1 : Hp) (D : Addr) (Q : VK) : Prop := ∃ W : Nat → Nat → Hp → Prop, (∃ m, W 0 m (upd H1 D (.lst []))) ∧ ∀ i m H, W i m H →
  (J.stop i H ∧ Q (.ref D) H) ∨ (J.go i H ∧ ∃ Nx : Hp → Prop, (∀ H', Nx H' → ∃ m', m' < m ∧ W (i + 1) m' H') ∧ ∀ x H', J.yld i H x H' → g x (wipe σ vs) H' fun σ2 H2 => wipe σ2 vs = wipe σ vs ∧ tt σ2 H2 fun b H3 =>
    if b = true then te σ2 H3 fun y H4 => ∃ acc, H4 D = some (.lst acc) ∧ acc.length < sizeLine ∧ Nx (upd H4 D (.lst (acc ++ [y]))) else Nx H3)
section
variable {g : TG} {vs : List Nat}
theorem t_lcT (h : ta σ H fun x H1 => ∃ a, x = .ref a ∧ (∃ xs, SqT K H1 a xs) ∧ ∀ D, H1 D = none → LcW (Itt K a) g t te vs σ H1 D Q) : tLc (iTup K ta) g t te vs σ H Q := h
theorem t_lcL (h : ta σ H fun x H1 => ∃ a, x = .ref a ∧ (∃ xs, SqL K H1 a xs) ∧ ∀ D, H1 D = none → LcW (Itl K a) g t te vs σ H1 D Q) : tLc (iList K ta) g t te vs σ H Q := h
theorem t_lcR (h : tr σ H fun ws H1 => ∃ j : Int, ws = [.int j] ∧ -(2 ^ 62) ≤ j ∧ j < 2 ^ 62 ∧ ∀ D, H1 D = none → LcW (Itr 0 j.toNat) g t te vs σ H1 D Q) : tLc (iRng1 tr) g t te vs σ H Q := h
/-- no item is kept, the tests leave the heap -/
theorem lcT_no {a : Addr} {xs : List V} {D : Addr} (hs : SqT K (upd H D (.lst [])) a xs) (ht : ∀ x ∈ xs, ∀ R : L2.St → Bool → Hp → Prop, (∀ σ2, R σ2 false (upd H D (.lst []))) → g x (wipe σ vs) (upd H D (.lst [])) fun σ2 H2 => wipe σ2 vs = wipe σ vs ∧ t σ2 H2 (R σ2)) (q : Q (.ref D) (upd H D (.lst []))) :
    LcW (Itt K a) g t te vs σ H D Q := by
  refine lc_tup (Qd := fun H' => Q (.ref D) H') (xs := xs) (fun _ H' => H' = upd H D (.lst [])) rfl (fun i H' _ e => e ▸ hs) (fun i x H' hx e => ?_) fun H' e => e ▸ q
  subst e
  refine ht x (List.mem_of_getElem? hx) (fun σ2 b H3 => if b = true then te σ2 H3 fun y H4 => ∃ acc, H4 D = some (.lst acc) ∧ acc.length < sizeLine ∧ upd H4 D (.lst (acc ++ [y])) = upd H D (.lst []) else H3 = upd H D (.lst [])) fun σ2 => ?_
  exact iteF rfl
theorem lcL_no {a : Addr} {xs : List V} {D : Addr} (hs : SqL K (upd H D (.lst [])) a xs) (ht : ∀ x ∈ xs, ∀ R : L2.St → Bool → Hp → Prop, (∀ σ2, R σ2 false (upd H D (.lst []))) → g x (wipe σ vs) (upd H D (.lst [])) fun σ2 H2 => wipe σ2 vs = wipe σ vs ∧ t σ2 H2 (R σ2)) (q : Q (.ref D) (upd H D (.lst []))) :
    LcW (Itl K a) g t te vs σ H D Q := by
  refine lc_list (Qd := fun H' => Q (.ref D) H') (xs := xs) (fun _ H' => H' = upd H D (.lst [])) rfl (fun i H' _ e => e ▸ hs) (fun i x H' hx e => ?_) fun H' e => e ▸ q
  subst e
  refine ht x (List.mem_of_getElem? hx) (fun σ2 b H3 => if b = true then te σ2 H3 fun y H4 => ∃ acc, H4 D = some (.lst acc) ∧ acc.length < sizeLine ∧ upd H4 D (.lst (acc ++ [y])) = upd H D (.lst []) else H3 = upd H D (.lst [])) fun σ2 => ?_
  exact iteF rfl
end
end
end Ol

namespace Ol
theorem near_neg {L i : Int} (h : 0 < L) : (-1 - i) % L = L - 1 - i % L ∧ (-1 - i) / L = -1 - i / L := by
  have a := Int.emod_nonneg i (show L ≠ 0 by omega)
  have b := Int.emod_lt_of_pos i h
  have c := Int.emod_add_mul_ediv i L
  have d := (Int.ediv_emod_unique (a := -1 - i) (b := L) (q := -1 - i / L) (r := L - 1 - i % L) h).mpr ⟨by
    rw [Int.mul_sub, Int.mul_neg, Int.mul_one]; omega, by omega, by omega⟩
  exact ⟨d.2, d.1⟩
theorem near_up {L i : Int} (h : 0 < L) (e : i % L + 1 = L) : (i + 1) % L = 0 ∧ (i + 1) / L = i / L + 1 := by
  have c := Int.emod_add_mul_ediv i L
  have d := (Int.ediv_emod_unique (a := i + 1) (b := L) (q := i / L + 1) (r := 0) h).mpr ⟨by rw [Int.mul_add, Int.mul_one]; omega, by omega, by omega⟩
  exact ⟨d.2, d.1⟩
theorem near_on {L i : Int} (h : 0 < L) (e : ¬ i % L + 1 = L) : (i + 1) % L = i % L + 1 ∧ (i + 1) / L = i / L := by
  have a := Int.emod_nonneg i (show L ≠ 0 by omega)
  have b := Int.emod_lt_of_pos i h
  have c := Int.emod_add_mul_ediv i L
  have d := (Int.ediv_emod_unique (a := i + 1) (b := L) (q := i / L) (r := i % L + 1) h).mpr ⟨by omega, by omega, by omega⟩
  exact ⟨d.2, d.1⟩
theorem far_sum {L x : Int} : x / L * L + x % L = x := by
  have c := Int.emod_add_mul_ediv x L
  rw [Int.mul_comm] at c
  omega
theorem far_wait {L d : Int} (h : L ≠ 0) : (d - d % L) / L * L = d - d % L := Int.ediv_mul_cancel ((Int.dvd_iff_emod_eq_zero ..).mpr (by rw [Int.sub_emod, Int.emod_emod, Int.sub_self, Int.zero_emod]))
end Ol

namespace Ol
open PySem L2
local macro_rules | `(tactic| walk_at "s") => `(tactic| ((first | with_reducible exact True.intro | ((with_reducible refine' t_var ?hv ?_); (case hv => exact rfl)) | with_reducible refine t_c ?_ | with_reducible refine t_op ?_ | with_reducible refine t_cons ?_ | with_reducible refine t_nil ?_ | with_reducible refine t_cb ?_ | with_reducible refine t_call ?_ | with_reducible refine t_ret ?_ | with_reducible refine t_seq ?_ | with_reducible refine t_asg ?_ | with_reducible refine t_name ?_ | with_reducible refine t_ifS ?_ | with_reducible refine t_next ?_ | with_reducible refine t_B ?_ | with_reducible refine t_test ?_ | with_reducible refine t_and ?_ | with_reducible refine t_or ?_ | with_reducible refine t_not ?_ | with_reducible refine t_andV ?_ | with_reducible refine t_orV ?_ | with_reducible refine t_notV ?_ | with_reducible refine t_if ?_ | with_reducible refine t_chain ?_ | with_reducible refine t_un ?_ | with_reducible refine t_meth ?_ | with_reducible refine t_fld ?_ | with_reducible refine t_sfld ?_ | with_reducible refine t_par3 ?_ | with_reducible refine t_for1 ?_ | with_reducible refine t_forL ?_ | with_reducible refine t_forT ?_ | with_reducible refine c_abs ?_ | with_reducible refine t_make ?_ | with_reducible refine ex_par3 ?_ | with_reducible refine t_drop ?_ | with_reducible refine t_retN ?_ | with_reducible refine t_lst ?_ | with_reducible refine t_tup ?_ | with_reducible refine t_par ?_ | with_reducible refine ex_par ?_ | with_reducible refine t_sl ?_ | with_reducible refine t_part ?_ | with_reducible refine t_noPart ?_ | with_reducible refine t_sub ?_ | with_reducible refine ex_bl ?_ | with_reducible refine ex_int ?_ | with_reducible refine r_I0 ?_ | with_reducible refine r_U ?_ | with_reducible refine r_eqI ?_ | with_reducible refine r_neI ?_ | with_reducible refine r_eqB ?_ | with_reducible refine r_neB ?_ | ((with_reducible refine r_I ?hi ?_); (case hi => first | omega | decide | exact .inl ⟨by omega, by omega⟩ | exact .inr ⟨by omega, by omega⟩ | exact ⟨by omega, by omega, by omega⟩ | exact ⟨by decide, by decide⟩ | exact ⟨by decide, by decide, mix_lt (Int.emod_nonneg _ (by decide)) (Int.lt_of_lt_of_le (Int.emod_lt_of_pos _ (by decide)) (by decide)) (by omega) (by omega) (by decide) (by decide) (by decide) (by decide) (by decide) (by decide)⟩ | exact .inl ⟨Int.lt_of_lt_of_le (by decide) (Int.emod_nonneg _ (by decide)), Int.lt_trans (Int.emod_lt_of_pos _ (by decide)) (by decide)⟩)) | with_reducible refine c_int1 ?_ | with_reducible refine c_intB ?_ | with_reducible refine iteT ?_ | with_reducible refine iteF ?_ | with_reducible refine ite_n ?_ | ((with_reducible refine ite_y ?hc ?_); (case hc => first | omega | decide)) | ((with_reducible refine ite_f ?hc ?_); (case hc => first | omega | decide))); try dsimp only))

def top (i : Nat) : Stmt := PySem.Challenge.pw_onelongturn_k02_moments_of_days.main.body.getD i (.Pass ⟨0, 0, 0, 0⟩)
abbrev s_is_integer : Stmt := top 1
abbrev s_is_between : Stmt := top 2
abbrev s_is_moment : Stmt := top 3
abbrev s_Day_init : Stmt := inClass (top 12) 1
abbrev s_Day_rmod : Stmt := inClass (top 12) 2
abbrev s_Day_rfloordiv : Stmt := inClass (top 12) 3
abbrev s_Day_forward : Stmt := inClass (top 12) 4
abbrev s_Day_contains : Stmt := inClass (top 12) 7
abbrev s_Day_eq : Stmt := inClass (top 12) 8
abbrev s_Day_str : Stmt := inClass (top 12) 9
abbrev s_pen : Stmt := top 14
abbrev s_draw : Stmt := top 15
abbrev s_pick : Stmt := top 16
abbrev s_near_right : Stmt := top 17
abbrev s_moment : Stmt := top 18
abbrev s_far_right : Stmt := top 19
abbrev s_values_right : Stmt := top 20
abbrev s_law : Stmt := top 21
theorem sc_is_integer : FnScope ["value"] ["value"] (defScope s_is_integer) := ⟨rfl, rfl, rfl, by decide +kernel, rfl, by decide +kernel, by decide +kernel⟩
theorem sc_is_between : FnScope ["value", "low", "high"] ["value", "low", "high"] (defScope s_is_between) := ⟨rfl, rfl, rfl, by decide +kernel, rfl, by decide +kernel, by decide +kernel⟩
theorem sc_is_moment : FnScope ["value"] ["value"] (defScope s_is_moment) := ⟨rfl, rfl, rfl, by decide +kernel, rfl, by decide +kernel, by decide +kernel⟩
theorem sc_Day_init : FnScope ["self", "length"] ["self", "length"] (defScope s_Day_init) := ⟨rfl, rfl, rfl, by decide +kernel, rfl, by decide +kernel, by decide +kernel⟩
theorem sc_Day_rmod : FnScope ["self", "moment"] ["self", "moment"] (defScope s_Day_rmod) := ⟨rfl, rfl, rfl, by decide +kernel, rfl, by decide +kernel, by decide +kernel⟩
theorem sc_Day_rfloordiv : FnScope ["self", "moment"] ["self", "moment"] (defScope s_Day_rfloordiv) := ⟨rfl, rfl, rfl, by decide +kernel, rfl, by decide +kernel, by decide +kernel⟩
theorem sc_Day_forward : FnScope ["self", "a", "b", "moment"] ["self", "a", "b"] (defScope s_Day_forward) := ⟨rfl, rfl, rfl, by decide +kernel, rfl, by decide +kernel, by decide +kernel⟩
theorem sc_Day_contains : FnScope ["self", "value"] ["self", "value"] (defScope s_Day_contains) := ⟨rfl, rfl, rfl, by decide +kernel, rfl, by decide +kernel, by decide +kernel⟩
theorem sc_Day_eq : FnScope ["self", "other"] ["self", "other"] (defScope s_Day_eq) := ⟨rfl, rfl, rfl, by decide +kernel, rfl, by decide +kernel, by decide +kernel⟩
theorem sc_Day_str : FnScope ["self"] ["self"] (defScope s_Day_str) := ⟨rfl, rfl, rfl, by decide +kernel, rfl, by decide +kernel, by decide +kernel⟩
theorem sc_pen : FnScope ["_law_script"] ["_law_script"] (defScope s_pen) := ⟨rfl, rfl, rfl, by decide +kernel, rfl, by decide +kernel, by decide +kernel⟩
theorem sc_draw : FnScope ["_law_pen_here", "_law_many", "_law_spot", "_law_cell", "_law_blent", "_law_digit", "_law_great"] ["_law_pen_here", "_law_many"] (defScope s_draw) := ⟨rfl, rfl, rfl, by decide +kernel, rfl, by decide +kernel, by decide +kernel⟩
theorem sc_pick : FnScope ["_law_pen_here", "_law_some"] ["_law_pen_here", "_law_some"] (defScope s_pick) := ⟨rfl, rfl, rfl, by decide +kernel, rfl, by decide +kernel, by decide +kernel⟩
theorem sc_near_right : FnScope ["_law_size", "_law_x", "_law_day", "_law_clock", "_law_far", "_law_below"] ["_law_size"] (defScope s_near_right) := ⟨rfl, rfl, rfl, by decide +kernel, rfl, by decide +kernel, by decide +kernel⟩
theorem sc_moment : FnScope ["_law_pen_here", "_law_size", "_law_some", "_law_found"] ["_law_pen_here", "_law_size"] (defScope s_moment) := ⟨rfl, rfl, rfl, by decide +kernel, rfl, by decide +kernel, by decide +kernel⟩
theorem sc_far_right : FnScope ["_law_pen_here", "_law_size", "_law_day", "_law_x", "_law_y", "_law_clock", "_law_far", "_law_wait"] ["_law_pen_here", "_law_size"] (defScope s_far_right) := ⟨rfl, rfl, rfl, by decide +kernel, rfl, by decide +kernel, by decide +kernel⟩
theorem sc_values_right : FnScope ["_law_pen_here", "_law_size", "_law_day", "_law_odd", "_law_other", "_law_each"] ["_law_pen_here", "_law_size"] (defScope s_values_right) := ⟨rfl, rfl, rfl, by decide +kernel, rfl, by decide +kernel, by decide +kernel⟩
theorem sc_law : FnScope ["_law_script", "_law_pen_here", "_law_turn", "_law_day", "_law_size"] ["_law_script"] (defScope s_law) := ⟨rfl, rfl, rfl, by decide +kernel, rfl, by decide +kernel, by decide +kernel⟩
theorem bt_abs : bootBuiltins "abs" = some (.builtin "abs") := by decide +kernel
theorem bt_bool : bootBuiltins "bool" = some (.type "bool") := by decide +kernel
theorem bt_int : bootBuiltins "int" = some (.type "int") := by decide +kernel
theorem bt_isinstance : bootBuiltins "isinstance" = some (.builtin "isinstance") := by decide +kernel
theorem bt_len : bootBuiltins "len" = some (.builtin "len") := by decide +kernel
theorem bt_list : bootBuiltins "list" = some (.type "list") := by decide +kernel
theorem bt_range : bootBuiltins "range" = some (.type "range") := by decide +kernel
theorem bt_repr : bootBuiltins "repr" = some (.builtin "repr") := by decide +kernel
theorem bt_str : bootBuiltins "str" = some (.type "str") := by decide +kernel
structure Ad where
  Day : Addr
  is_integer : Addr
  is_between : Addr
  is_moment : Addr
  Day_init : Addr
  Day_rmod : Addr
  Day_rfloordiv : Addr
  Day_forward : Addr
  Day_contains : Addr
  Day_eq : Addr
  Day_str : Addr
  pen : Addr
  draw : Addr
  pick : Addr
  near_right : Addr
  moment : Addr
  far_right : Addr
  values_right : Addr
  law : Addr
structure Fd where
  is_integer : FuncData
  is_between : FuncData
  is_moment : FuncData
  Day_init : FuncData
  Day_rmod : FuncData
  Day_rfloordiv : FuncData
  Day_forward : FuncData
  Day_contains : FuncData
  Day_eq : FuncData
  Day_str : FuncData
  pen : FuncData
  draw : FuncData
  pick : FuncData
  near_right : FuncData
  moment : FuncData
  far_right : FuncData
  values_right : FuncData
  law : FuncData
structure Txt (K : PySem.W.Frag) (mg : Str → Option Value) (A : Ad) (D : Fd) : Prop where
  m_is_integer : mg "is_integer" = some (.ref A.is_integer)
  f_is_integer : Fun K "is_integer" "is_integer" s_is_integer A.is_integer D.is_integer
  b_is_integer : Binds K D.is_integer ["value"] []
  m_is_between : mg "is_between" = some (.ref A.is_between)
  f_is_between : Fun K "is_between" "is_between" s_is_between A.is_between D.is_between
  b_is_between : Binds K D.is_between ["value", "low", "high"] []
  m_is_moment : mg "is_moment" = some (.ref A.is_moment)
  f_is_moment : Fun K "is_moment" "is_moment" s_is_moment A.is_moment D.is_moment
  b_is_moment : Binds K D.is_moment ["value"] []
  f_Day_init : Fun K "__init__" "Day.__init__" s_Day_init A.Day_init D.Day_init
  b_Day_init : Binds K D.Day_init ["self", "length"] []
  f_Day_rmod : Fun K "__rmod__" "Day.__rmod__" s_Day_rmod A.Day_rmod D.Day_rmod
  b_Day_rmod : Binds K D.Day_rmod ["self", "moment"] []
  f_Day_rfloordiv : Fun K "__rfloordiv__" "Day.__rfloordiv__" s_Day_rfloordiv A.Day_rfloordiv D.Day_rfloordiv
  b_Day_rfloordiv : Binds K D.Day_rfloordiv ["self", "moment"] []
  f_Day_forward : Fun K "forward" "Day.forward" s_Day_forward A.Day_forward D.Day_forward
  b_Day_forward : Binds K D.Day_forward ["self", "a", "b"] []
  f_Day_contains : Fun K "__contains__" "Day.__contains__" s_Day_contains A.Day_contains D.Day_contains
  b_Day_contains : Binds K D.Day_contains ["self", "value"] []
  f_Day_eq : Fun K "__eq__" "Day.__eq__" s_Day_eq A.Day_eq D.Day_eq
  b_Day_eq : Binds K D.Day_eq ["self", "other"] []
  f_Day_str : Fun K "__str__" "Day.__str__" s_Day_str A.Day_str D.Day_str
  b_Day_str : Binds K D.Day_str ["self"] []
  m_pen : mg "_law_pen" = some (.ref A.pen)
  f_pen : Fun K "_law_pen" "_law_pen" s_pen A.pen D.pen
  b_pen : Binds K D.pen ["_law_script"] []
  m_draw : mg "_law_draw" = some (.ref A.draw)
  f_draw : Fun K "_law_draw" "_law_draw" s_draw A.draw D.draw
  b_draw : Binds K D.draw ["_law_pen_here", "_law_many"] []
  m_pick : mg "_law_pick" = some (.ref A.pick)
  f_pick : Fun K "_law_pick" "_law_pick" s_pick A.pick D.pick
  b_pick : Binds K D.pick ["_law_pen_here", "_law_some"] []
  m_near_right : mg "_law_near_right" = some (.ref A.near_right)
  f_near_right : Fun K "_law_near_right" "_law_near_right" s_near_right A.near_right D.near_right
  b_near_right : Binds K D.near_right ["_law_size"] []
  m_moment : mg "_law_moment" = some (.ref A.moment)
  f_moment : Fun K "_law_moment" "_law_moment" s_moment A.moment D.moment
  b_moment : Binds K D.moment ["_law_pen_here", "_law_size"] []
  m_far_right : mg "_law_far_right" = some (.ref A.far_right)
  f_far_right : Fun K "_law_far_right" "_law_far_right" s_far_right A.far_right D.far_right
  b_far_right : Binds K D.far_right ["_law_pen_here", "_law_size"] []
  m_values_right : mg "_law_values_right" = some (.ref A.values_right)
  f_values_right : Fun K "_law_values_right" "_law_values_right" s_values_right A.values_right D.values_right
  b_values_right : Binds K D.values_right ["_law_pen_here", "_law_size"] []
  m_law : mg "law" = some (.ref A.law)
  f_law : Fun K "law" "law" s_law A.law D.law
  b_law : Binds K D.law ["_law_script"] []
  m_Day : mg "Day" = some (.ref A.Day)
  cl_Day : Cls K A.Day
  mk_Day : Mk K A.Day A.Day_init
  na_Day_length : NoAttr K A.Day "length"
  me_Day_rmod : Meth K A.Day "__rmod__" A.Day_rmod
  me_Day_rfloordiv : Meth K A.Day "__rfloordiv__" A.Day_rfloordiv
  me_Day_forward : Meth K A.Day "forward" A.Day_forward
  me_Day_contains : Meth K A.Day "__contains__" A.Day_contains
  me_Day_eq : Meth K A.Day "__eq__" A.Day_eq
  me_Day_str : Meth K A.Day "__str__" A.Day_str
  re_Day_FloorDiv : ReflOf K A.Day .FloorDiv A.Day_rfloordiv
  re_Day_Mod : ReflOf K A.Day .Mod A.Day_rmod
  co_Day_Eq : CmpOf K A.Day .Eq A.Day_eq
  ne_Day : NeOf K A.Day A.Day_eq
  cr_Day : ClX.CRead K A.Day (.type "type")
  cv_Day_MOST : ∃ t, PySem.W.findCls K (.ref A.Day) (.type "type") "MOST" = some (.val (.int 1000000000000 t))
  is_Day : IsC K A.Day
  g_MOST_LENGTH : ∃ t, mg "MOST_LENGTH" = some (Value.int 1000000000000 t)
  n_abs : mg "abs" = none
  n_bool : mg "bool" = none
  n_int : mg "int" = none
  n_isinstance : mg "isinstance" = none
  n_len : mg "len" = none
  n_list : mg "list" = none
  n_range : mg "range" = none
  n_repr : mg "repr" = none
  n_str : mg "str" = none
  kd_int : PySem.W.kitOne K (.type "int") (.ref A.Day) = some false
  kd_str : PySem.W.kitOne K (.type "str") (.ref A.Day) = some false
  kd_non : PySem.W.kitOne K (.type "NoneType") (.ref A.Day) = some false
  kd_list : PySem.W.kitOne K (.type "list") (.ref A.Day) = some false
  kd_tuple : PySem.W.kitOne K (.type "tuple") (.ref A.Day) = some false
  sd_int : PySem.W.subIn K (.ref A.Day) (.type "int") = some false
  sd_str : PySem.W.subIn K (.ref A.Day) (.type "str") = some false
  sd_non : PySem.W.subIn K (.ref A.Day) (.type "NoneType") = some false
  sd_list : PySem.W.subIn K (.ref A.Day) (.type "list") = some false
  sd_tuple : PySem.W.subIn K (.ref A.Day) (.type "tuple") = some false
  dk_int : PySem.W.kitOne K (.ref A.Day) (.type "int") = some false
section
variable {P : Program} {w : World} {K : PySem.W.Frag} {mg : Str → Option Value} {base : Heap} {A : Ad} {D : Fd}
theorem ok_is_integer (T : Txt K mg A D) : FnOk P w K mg base CX0 1 A.is_integer D.is_integer ["value"] (spIsInt K) := by
  refine T.f_is_integer.ok sc_is_integer (fun vs H Q E h => ?_) (fun cdv Ar outer s H vs Q E hr h => ?_)
  · obtain ⟨x, rfl, _⟩ := h
    rfl
  · obtain ⟨x, rfl, h⟩ := h
    refine ⟨_, (pss_one (ps_ret (pe_and (pe_callB call_isi rfl T.n_isinstance bt_isinstance (pa_cons (pv 0) (pa_cons (pe_bltn (v := .ty "int") rfl T.n_int bt_int rfl) pa_nil))) (pe_one (pe_not (pe_callB call_isi rfl T.n_isinstance bt_isinstance (pa_cons (pv 0) (pa_cons (pe_bltn (v := .ty "bool") rfl T.n_bool bt_bool rfl) pa_nil)))))))), ?_⟩
    rcases h with ⟨i, rfl, q⟩ | ⟨⟨t, b, ty, k1, k2⟩, q⟩
    · repeat walk_at "s"
      refine ⟨_, _, _, _, _, rfl, .ty _, .base (.int i), kit_int_int, ?_⟩
      repeat walk_at "s"
      refine ⟨_, _, _, _, _, rfl, .ty _, .base (.int i), kit_int_bool, ?_⟩
      repeat walk_at "s"
      exact q
    · repeat walk_at "s"
      refine ⟨_, _, _, _, _, rfl, .ty _, ty, k1, ?_⟩
      repeat walk_at "s"
      cases b with
      | false =>
        repeat walk_at "s"
        exact q
      | true =>
        repeat walk_at "s"
        refine ⟨_, _, _, _, _, rfl, .ty _, ty, k2 rfl, ?_⟩
        repeat walk_at "s"
        exact q
theorem ok_is_between (T : Txt K mg A D) : FnOk P w K mg base CX0 2 A.is_between D.is_between ["value", "low", "high"] (spBetween K) := by
  refine T.f_is_between.ok sc_is_between (fun vs H Q E h => ?_) (fun cdv Ar outer s H vs Q E hr h => ?_)
  · obtain ⟨x, lo, hi, rfl, _⟩ := h
    rfl
  · obtain ⟨x, lo, hi, rfl, h⟩ := h
    refine ⟨_, (pss_one (ps_ret (pe_and (pe_call (ok_is_integer T) (hr.mono (by decide)) rfl T.m_is_integer T.f_is_integer.kp T.b_is_integer .nil pass0 (pa_cons (pv 0) pa_nil)) (pe_one (pe_chain op_le op_le (pv 1) (pv 0) (pv 2)))))), ?_⟩
    rcases h with ⟨i, rfl, q⟩ | ⟨ni, q⟩
    · repeat walk_at "s"
      refine ⟨_, rfl, .inl ⟨i, rfl, ?_⟩⟩
      repeat walk_at "s"
      refine ite_d (fun h1 => ?_) fun h1 => ?_
      · repeat walk_at "s"
        by_cases h2 : i ≤ hi
        · rw [decide_eq_true (⟨h1, h2⟩ : lo ≤ i ∧ i ≤ hi)] at q
          rw [decide_eq_true h2]
          exact q
        · rw [decide_eq_false fun z : lo ≤ i ∧ i ≤ hi => h2 z.2] at q
          rw [decide_eq_false h2]
          exact q
      · rw [decide_eq_false fun z : lo ≤ i ∧ i ≤ hi => h1 z.1] at q
        exact q
    · repeat walk_at "s"
      refine ⟨_, rfl, .inr ⟨ni, ?_⟩⟩
      repeat walk_at "s"
      exact q
theorem ok_is_moment (T : Txt K mg A D) : FnOk P w K mg base CX0 2 A.is_moment D.is_moment ["value"] (spMoment K) := by
  refine T.f_is_moment.ok sc_is_moment (fun vs H Q E h => ?_) (fun cdv Ar outer s H vs Q E hr h => ?_)
  · obtain ⟨x, rfl, _⟩ := h
    rfl
  · obtain ⟨x, rfl, h⟩ := h
    refine ⟨_, (pss_one (ps_ret (pe_and (pe_call (ok_is_integer T) (hr.mono (by decide)) rfl T.m_is_integer T.f_is_integer.kp T.b_is_integer .nil pass0 (pa_cons (pv 0) pa_nil)) (pe_one (pe_cmpR op_lt (pe_callB call_abs rfl T.n_abs bt_abs (pa_cons (pv 0) pa_nil)) (pe_op op_pow pe_int pe_int) (nomark _)))))), ?_⟩
    rcases h with ⟨i, rfl, q⟩ | ⟨ni, q⟩
    · repeat walk_at "s"
      refine ⟨_, rfl, .inl ⟨i, rfl, ?_⟩⟩
      repeat walk_at "s"
      rw [abs_lt60]
      exact q
    · repeat walk_at "s"
      refine ⟨_, rfl, .inr ⟨ni, ?_⟩⟩
      repeat walk_at "s"
      exact q
theorem ok_Day_init (T : Txt K mg A D) : FnOk P w K mg base CX0 3 A.Day_init D.Day_init ["self", "length"] (spDayInit A.Day) := by
  refine T.f_Day_init.ok sc_Day_init (fun vs H Q E h => ?_) (fun cdv Ar outer s H vs Q E hr h => ?_)
  · obtain ⟨a, dx, L, rfl, _⟩ := h
    rfl
  · obtain ⟨a, dx, L, rfl, hL, ha, q⟩ := h
    refine ⟨_, (pss_cons (ps_if (pt_not (pt_val (pe_call (ok_is_between T) (hr.mono (by decide)) rfl T.m_is_between T.f_is_between.kp T.b_is_between .nil pass0 (pa_cons (pv 1) (pa_cons pe_int (pa_cons (pe_gi rfl T.g_MOST_LENGTH) pa_nil)))))) (pss_one ps_never) pss_nil) (pss_one (ps_fld (pv 0) (pv 1) rfl))), ?_⟩
    repeat walk_at "s"
    refine ⟨_, _, _, rfl, .inl ⟨L, rfl, ?_⟩⟩
    repeat walk_at "s"
    exact ⟨a, A.Day, dx, _, rfl, ha, T.cl_Day, T.na_Day_length, by decide, q⟩
theorem ok_Day_rmod (T : Txt K mg A D) : FnOk P w K mg base CX0 3 A.Day_rmod D.Day_rmod ["self", "moment"] (spRmod A.Day) := by
  refine T.f_Day_rmod.ok sc_Day_rmod (fun vs H Q E h => ?_) (fun cdv Ar outer s H vs Q E hr h => ?_)
  · obtain ⟨a, m, L, rfl, _⟩ := h
    rfl
  · obtain ⟨a, m, L, rfl, ⟨hL, dx, ha⟩, hm, q⟩ := h
    refine ⟨_, (pss_cons (ps_if (pt_not (pt_val (pe_call (ok_is_moment T) (hr.mono (by decide)) rfl T.m_is_moment T.f_is_moment.kp T.b_is_moment .nil pass0 (pa_cons (pv 1) pa_nil)))) (pss_one ps_never) pss_nil) (pss_one (ps_ret (pe_op op_mod (pv 1) (pe_fld (pv 0) rfl))))), ?_⟩
    repeat walk_at "s"
    refine ⟨_, rfl, .inl ⟨m, rfl, ?_⟩⟩
    repeat walk_at "s"
    refine ⟨a, A.Day, dx, _, _, rfl, ha, T.cl_Day, T.na_Day_length, rfl, ?_⟩
    repeat walk_at "s"
    exact q
theorem ok_Day_rfloordiv (T : Txt K mg A D) : FnOk P w K mg base CX0 3 A.Day_rfloordiv D.Day_rfloordiv ["self", "moment"] (spRfdiv A.Day) := by
  refine T.f_Day_rfloordiv.ok sc_Day_rfloordiv (fun vs H Q E h => ?_) (fun cdv Ar outer s H vs Q E hr h => ?_)
  · obtain ⟨a, m, L, rfl, _⟩ := h
    rfl
  · obtain ⟨a, m, L, rfl, ⟨hL, dx, ha⟩, hm, q⟩ := h
    refine ⟨_, (pss_cons (ps_if (pt_not (pt_val (pe_call (ok_is_moment T) (hr.mono (by decide)) rfl T.m_is_moment T.f_is_moment.kp T.b_is_moment .nil pass0 (pa_cons (pv 1) pa_nil)))) (pss_one ps_never) pss_nil) (pss_one (ps_ret (pe_op op_fdivW (pv 1) (pe_fld (pv 0) rfl))))), ?_⟩
    repeat walk_at "s"
    refine ⟨_, rfl, .inl ⟨m, rfl, ?_⟩⟩
    repeat walk_at "s"
    refine ⟨a, A.Day, dx, _, _, rfl, ha, T.cl_Day, T.na_Day_length, rfl, ?_⟩
    repeat walk_at "s"
    refine r_I (wide_div (b := 41) (by omega) (by omega) (by decide) (by decide)) ?_
    exact q
theorem ok_Day_forward (T : Txt K mg A D) : FnOk P w K mg base CX0 3 A.Day_forward D.Day_forward ["self", "a", "b"] (spForward A.Day) := by
  refine T.f_Day_forward.ok sc_Day_forward (fun vs H Q E h => ?_) (fun cdv Ar outer s H vs Q E hr h => ?_)
  · obtain ⟨a, m, n, L, rfl, _⟩ := h
    rfl
  · obtain ⟨a, m, n, L, rfl, ⟨hL, dx, ha⟩, hm, hn, q⟩ := h
    refine ⟨_, (pss_cons (ps_for PassesOwn.never rfl (pi_tup (pe_tup (pa_cons (pv 1) (pa_cons (pv 2) pa_nil)))) (pg_name (i := 3) sc_Day_forward.nd rfl (Or.inl rfl)) (pss_one (ps_if (pt_not (pt_val (pe_call (ok_is_moment T) (hr.mono (by decide)) rfl T.m_is_moment T.f_is_moment.kp T.b_is_moment .nil pass0 (pa_cons (pv 3) pa_nil)))) (pss_one ps_never) pss_nil))) (pss_one (ps_ret (pe_op op_mod (pe_op op_sub (pv 2) (pv 1)) (pe_fld (pv 0) rfl))))), ?_⟩
    repeat walk_at "s"
    refine ⟨lst_ok rfl, fun p hp => ?_⟩
    have S := Same.new (o := .tup [.int m, .int n]) hp
    refine ex_tup (xs := [.int m, .int n]) (.inl (.inl upd_same)) (fun i σ' H' => H' = upd H p (.tup [.int m, .int n]) ∧ ∃ v, σ' = [some (.ref a), some (.int m), some (.int n), v]) ⟨rfl, _, rfl⟩ ?_ ?_ ?_
    · rintro i σ' H' _ ⟨rfl, _⟩
      exact .inl (.inl upd_same)
    · rintro i x σ' H' hx ⟨rfl, v, rfl⟩
      have hx2 : ∃ k, x = V.int k ∧ k.natAbs < 10 ^ 60 := by
        match i, hx with
        | 0, hx => exact ⟨m, by simpa using hx.symm, hm⟩
        | 1, hx => exact ⟨n, by simpa using hx.symm, hn⟩
      obtain ⟨k, rfl, hk⟩ := hx2
      repeat walk_at "s"
      refine ⟨_, rfl, .inl ⟨k, rfl, ?_⟩⟩
      repeat walk_at "s"
      exact ⟨rfl, _, rfl⟩
    · rintro σ' H' ⟨rfl, v, rfl⟩
      repeat walk_at "s"
      refine ⟨a, A.Day, dx, _, _, rfl, S _ _ ha, T.cl_Day, T.na_Day_length, rfl, ?_⟩
      repeat walk_at "s"
      exact q _ S
theorem ok_Day_eq (T : Txt K mg A D) : FnOk P w K mg base CX0 1 A.Day_eq D.Day_eq ["self", "other"] (spDayEq2 K A.Day) := by
  refine T.f_Day_eq.ok sc_Day_eq (fun vs H Q E h => ?_) (fun cdv Ar outer s H vs Q E hr h => ?_)
  · obtain ⟨a, b, L, rfl, _⟩ := h
    rfl
  · obtain ⟨a, y, L, rfl, ⟨hL, dx, ha⟩, h⟩ := h
    refine ⟨_, (pss_one (ps_ret (pe_and (pe_callB call_isi rfl T.n_isinstance bt_isinstance (pa_cons (pv 1) (pa_cons (pe_glob (v := .ref A.Day) rfl T.m_Day rfl) pa_nil))) (pe_one (pe_cmpR op_eq (pe_fld (pv 0) rfl) (pe_fld (pv 1) rfl) (nomark _)))))), ?_⟩
    rcases h with ⟨b, M, rfl, ⟨hM, dy, hb⟩, q⟩ | ⟨t, ty, hk, q⟩
    · repeat walk_at "s"
      refine ⟨_, _, _, _, _, rfl, .own A.Day, T.is_Day.ty hb, kit_self, ?_⟩
      repeat walk_at "s"
      refine ⟨a, A.Day, dx, _, _, rfl, ha, T.cl_Day, T.na_Day_length, rfl, ?_⟩
      repeat walk_at "s"
      refine ⟨b, A.Day, dy, _, _, rfl, hb, T.cl_Day, T.na_Day_length, rfl, ?_⟩
      repeat walk_at "s"
      exact q
    · repeat walk_at "s"
      refine ⟨_, _, _, _, _, rfl, .own A.Day, ty, hk, ?_⟩
      repeat walk_at "s"
      exact q
theorem ok_Day_contains (T : Txt K mg A D) : FnOk P w K mg base CX0 3 A.Day_contains D.Day_contains ["self", "value"] (spDayIn K A.Day) := by
  refine T.f_Day_contains.ok sc_Day_contains (fun vs H Q E h => ?_) (fun cdv Ar outer s H vs Q E hr h => ?_)
  · obtain ⟨a, b, L, rfl, _⟩ := h
    rfl
  · obtain ⟨a, y, L, rfl, ⟨hL, dx, ha⟩, h⟩ := h
    refine ⟨_, (pss_one (ps_ret (pe_call (ok_is_between T) (hr.mono (by decide)) rfl T.m_is_between T.f_is_between.kp T.b_is_between .nil pass0 (pa_cons (pv 1) (pa_cons pe_int (pa_cons (pe_op op_sub (pe_fld (pv 0) rfl) pe_int) pa_nil)))))), ?_⟩
    repeat walk_at "s"
    refine ⟨a, A.Day, dx, _, _, rfl, ha, T.cl_Day, T.na_Day_length, rfl, ?_⟩
    repeat walk_at "s"
    exact ⟨_, _, _, rfl, h⟩
theorem ok_Day_str (T : Txt K mg A D) : FnOk P w K mg base CX0 1 A.Day_str D.Day_str ["self"] (spDayStr A.Day) := by
  refine T.f_Day_str.ok sc_Day_str (fun vs H Q E h => ?_) (fun cdv Ar outer s H vs Q E hr h => ?_)
  · obtain ⟨a, L, rfl, _⟩ := h
    rfl
  · obtain ⟨a, L, rfl, ⟨hL, dx, ha⟩, q⟩ := h
    refine ⟨_, (pss_one (ps_ret (pe_callTy call_str_int rfl T.n_str bt_str (pa_cons (pe_fld (pv 0) rfl) pa_nil)))), ?_⟩
    repeat walk_at "s"
    refine ⟨a, A.Day, dx, _, _, rfl, ha, T.cl_Day, T.na_Day_length, rfl, ?_⟩
    exact ⟨L, rfl, Nat.lt_of_lt_of_le (PySem.Flt.log2_lt_of (k := 41) (by decide) (by omega)) (by decide), q⟩
theorem ok_pen (T : Txt K mg A D) : FnOk P w K mg base CX0 1 A.pen D.pen ["_law_script"] (spPen K) := by
  refine T.f_pen.ok sc_pen (fun vs H Q E h => ?_) (fun cdv Ar outer s H vs Q E hr h => ?_)
  · obtain ⟨a, ns, rfl, _⟩ := h
    rfl
  · obtain ⟨a, ns, rfl, hS, hn, q⟩ := h
    refine ⟨_, (pss_one (ps_ret (pe_lst (pa_cons (pe_callTy call_list_of rfl T.n_list bt_list (pa_cons (pe_slice sl_list (pv 0) po_none (po_some pe_int)) pa_nil)) (pa_cons pe_int (pa_cons pe_int pa_nil)))))), ?_⟩
    repeat walk_at "s"
    refine ⟨a, _, rfl, hS, fun l hl => ?_⟩
    repeat walk_at "s"
    refine ⟨l, _, rfl, .inl (.inl (.inl upd_same)), fun m hm => ?_⟩
    repeat walk_at "s"
    refine ⟨lst_ok rfl, fun p hp => ?_⟩
    have hl2 : H m = none := (Same.new hl).free hm
    have hp2 := (Same.new hm).free hp
    rw [cut63 hn] at hm hp hp2 ⊢
    have S1 := Same.new (o := .lst (ns.map V.int)) hl
    have S2 := Same.new (o := .lst (ns.map V.int)) hm
    have S3 := Same.new (o := .lst [.ref m, .int 0, .int 0]) hp
    exact q p _ ((S1.trans S2).trans S3) (S1.free hp2) ⟨m, ns, 0, 0, upd_same, ne_of_none upd_same hp, S3 _ _ upd_same, by decide, by decide, by decide, hn⟩
theorem ok_draw (T : Txt K mg A D) : FnOk P w K mg base CX0 1 A.draw D.draw ["_law_pen_here", "_law_many"] spDraw := by
  refine T.f_draw.ok sc_draw (fun vs H Q E h => ?_) (fun cdv Ar outer s H vs Q E hr h => ?_)
  · obtain ⟨p, many, n, rfl, _⟩ := h
    rfl
  · obtain ⟨p, many, n, rfl, h0, h1, ⟨l, cells, spot, great, hp, ne, hl, s0, s1, g0, c0⟩, q⟩ := h
    refine ⟨_, (pss_cons (ps_if (pt_cmpR op_gt (pe_ix ix_list (pv 0) pe_int (fun _ _ => rfl)) pe_int (nomark _)) (pss_cons (ps_set (i := 5) sc_draw.nd rfl (Or.inl rfl) (pe_op op_mod (pe_callTy call_int1 rfl T.n_int bt_int (pa_cons (pe_ix ix_list (pv 0) pe_int (fun _ _ => rfl)) pa_nil)) (pv 1))) (pss_cons (ps_asg (pe_op op_fdivW (pe_callTy call_int1 rfl T.n_int bt_int (pa_cons (pe_ix ix_list (pv 0) pe_int (fun _ _ => rfl)) pa_nil)) (pv 1)) (pg_sub (pv 0) pe_int set_list)) (pss_one (ps_ret (pv 5))))) pss_nil) (pss_cons (ps_set (i := 2) sc_draw.nd rfl (Or.inl rfl) (pe_ix ix_list (pv 0) pe_int (fun _ _ => rfl))) (pss_cons (ps_asg (pe_op op_add (pv 2) pe_int) (pg_sub (pv 0) pe_int set_list)) (pss_cons (ps_set (i := 3) sc_draw.nd rfl (Or.inl rfl) (pe_op op_add (pe_op op_mul pe_int (pv 2)) pe_int)) (Evl.pss_cut (ps_if (pt_cmpR (op_neD hr.units) (pe_ix ix_list (pv 0) pe_int (fun _ _ => rfl)) (pe_lst pa_nil) (nomark _)) (pss_one (ps_set (i := 3) sc_draw.nd rfl (Or.inl rfl) (pe_ix ix_list (pe_ix ix_list (pv 0) pe_int (fun _ _ => rfl)) (pe_op op_mod (pe_callTy call_int1 rfl T.n_int bt_int (pa_cons (pv 2) pa_nil)) (pe_callB call_len_seq rfl T.n_len bt_len (pa_cons (pe_ix ix_list (pv 0) pe_int (fun _ _ => rfl)) pa_nil))) (fun _ _ => rfl)))) pss_nil) (pss_cons (ps_if (PW.pt (pw_and (pt_cmpR op_lt (pv 2) (pe_callB call_len_seq rfl T.n_len bt_len (pa_cons (pe_ix ix_list (pv 0) pe_int (fun _ _ => rfl)) pa_nil)) (nomark _)) (pw_and1 (pt_cmpR op_ge (pe_callB call_abs rfl T.n_abs bt_abs (pa_cons (pv 3) pa_nil)) (pe_op op_pow pe_int pe_int) (nomark _))))) (pss_cons (ps_set (i := 6) sc_draw.nd rfl (Or.inl rfl) (pe_op op_add (pe_op op_mul pe_int (pe_op op_sub (pe_callB call_abs rfl T.n_abs bt_abs (pa_cons (pv 3) pa_nil)) (pe_op op_pow pe_int pe_int))) (pe_callTy call_int1 rfl T.n_int bt_int (pa_cons (pe_cmpR op_lt (pv 3) pe_int (nomark _)) pa_nil)))) (pss_cons (ps_asg (pe_op op_fdivW (pe_callTy call_int1 rfl T.n_int bt_int (pa_cons (pv 6) pa_nil)) (pv 1)) (pg_sub (pv 0) pe_int set_list)) (pss_one (ps_ret (pe_op op_mod (pe_callTy call_int1 rfl T.n_int bt_int (pa_cons (pv 6) pa_nil)) (pv 1)))))) pss_nil) (pss_cons (ps_set (i := 4) sc_draw.nd rfl (Or.inl rfl) (pe_op op_mod (pe_callTy call_int1 rfl T.n_int bt_int (pa_cons (pe_op op_pow (pe_op op_add (pe_op op_add (pe_op op_mod (pe_callTy call_int1 rfl T.n_int bt_int (pa_cons (pv 3) pa_nil)) pe_int) (pe_op op_mul pe_int (pv 2))) pe_int) pe_int) pa_nil)) pe_int)) (pss_cons (ps_set (i := 4) sc_draw.nd rfl (Or.inl rfl) (pe_op op_mod (pe_callTy call_int1 rfl T.n_int bt_int (pa_cons (pe_op op_pow (pe_op op_add (pe_op op_add (pe_op op_mul (pv 4) (pe_op op_add (pe_op op_mul pe_int (pv 2)) pe_int)) (pe_op op_mul (pe_op op_mul pe_int (pv 2)) (pv 2))) pe_int) pe_int) pa_nil)) pe_int)) (pss_one (ps_ret (pe_op op_mod (pe_callTy call_int1 rfl T.n_int bt_int (pa_cons (pe_op op_fdivW (pv 4) pe_int) pa_nil)) (pv 1)))))))))))), ?_⟩
    repeat walk_at "s"
    refine r_ixL (.inl (.inl hp)) rfl ?_
    repeat walk_at "s"
    refine ite_d (fun hg => ?_) fun hg => ?_
    · repeat walk_at "s"
      refine r_ixL (.inl (.inl hp)) rfl ?_
      repeat walk_at "s"
      refine r_ixL (.inl (.inl hp)) rfl ?_
      repeat walk_at "s"
      refine r_I (wide_div h0 h1 (by decide) (by decide)) ?_
      repeat walk_at "s"
      refine ⟨p, _, 2, 2, rfl, rfl, hp, rfl, ?_⟩
      repeat walk_at "s"
      refine q _ _ (fun b o n e => by rw [upd_ne n]; exact e) ⟨l, cells, spot, great / many, upd_same, ne, by rw [upd_ne ne]; exact hl, s0, by omega, Int.ediv_nonneg g0 (by omega), c0⟩ (Int.emod_nonneg _ (by omega)) (Int.emod_lt_of_pos _ h0)
    · repeat walk_at "s"
      refine r_ixL (.inl (.inl hp)) rfl ?_
      repeat walk_at "s"
      refine ⟨p, _, 1, 1, rfl, rfl, hp, rfl, ?_⟩
      have hl' : upd H p (.lst [.ref l, .int (spot + 1), .int great]) l = some (.lst (cells.map V.int)) := by rw [upd_ne ne]; exact hl
      repeat walk_at "s"
      refine t_cut (fun σ' H' => ∃ cell : Int, σ' = [some (.ref p), some (.int many), some (.int spot), some (.int cell), none, none, none] ∧ Go p H H' ∧ H' p = some (.lst [.ref l, .int (spot + 1), .int great]) ∧ H' l = some (.lst (cells.map V.int))) ?_ ?_
      · repeat walk_at "s"
        refine r_ixL (.inl (.inl upd_same)) rfl ?_
        repeat walk_at "s"
        refine ⟨lst_ok rfl, fun z hz => ?_⟩
        have S := Same.new (o := .lst []) hz
        have G : Go p H _ := (Go.set (o := .lst [.ref l, .int (spot + 1), .int great])).trans (Same.go S)
        have hp2 := S _ _ (upd_same (H := H) (a := p) (o := .lst [.ref l, .int (spot + 1), .int great]))
        have hl2 := S _ _ hl'
        refine r_neNil (.inl (.inl hl2)) (.inl (.inl upd_same)) ?_
        repeat walk_at "s"
        cases cells with
        | nil =>
          rw [List.isEmpty_nil]
          repeat walk_at "s"
          exact ⟨_, rfl, G, hp2, hl2⟩
        | cons c0' cr =>
          rw [List.isEmpty_cons]
          repeat walk_at "s"
          refine r_ixL (.inl (.inl hp2)) rfl ?_
          repeat walk_at "s"
          refine r_ixL (.inl (.inl hp2)) rfl ?_
          repeat walk_at "s"
          refine c_len (.inl (.inl (.inl hl2))) ?_
          rw [List.length_map]
          have hb : (0 : Int) < ((c0' :: cr).length : Int) := by simp
          refine r_I hb ?_
          obtain ⟨c, hc⟩ := at_ints (ns := c0' :: cr) (i := spot % ((c0' :: cr).length : Int)) (Int.emod_nonneg _ (by omega)) (Int.emod_lt_of_pos _ hb)
          refine r_ixL (.inl (.inl hl2)) hc ?_
          repeat walk_at "s"
          exact ⟨_, rfl, G, hp2, hl2⟩
      · rintro σ' H' ⟨cell, rfl, G, hp2, hl2⟩
        repeat walk_at "s"
        refine r_ixL (.inl (.inl hp2)) rfl ?_
        repeat walk_at "s"
        refine c_len (.inl (.inl (.inl hl2))) ?_
        repeat walk_at "s"
        have fin : ∀ b : Int, Q (.int (b % many)) H' := fun b => q _ _ G ⟨l, cells, spot + 1, great, hp2, ne, hl2, by omega, by omega, g0, c0⟩ (Int.emod_nonneg _ (by omega)) (Int.emod_lt_of_pos _ h0)
        refine ite_d (fun hs => ?_) fun hs => ?_
        · repeat walk_at "s"
          refine ite_d (fun hc => ?_) fun hc => ?_
          · repeat walk_at "s"
            refine r_I (wide_div h0 h1 (by decide) (by decide)) ?_
            repeat walk_at "s"
            refine ⟨p, _, 2, 2, rfl, rfl, hp2, rfl, ?_⟩
            repeat walk_at "s"
            have hG : 0 ≤ 2 * ((if cell < 0 then -cell else cell) - 10 ^ Int.toNat 18) + if decide (cell < 0) = true then 1 else 0 := by
              generalize (10 : Int) ^ Int.toNat 18 = X at hc ⊢
              generalize (if cell < 0 then -cell else cell) = Y at hc ⊢
              split <;> omega
            exact q _ _ (G.trans Go.set) ⟨l, cells, spot + 1, _, upd_same, ne, by rw [upd_ne ne]; exact hl2, by omega, by omega, Int.ediv_nonneg hG (by omega), c0⟩ (Int.emod_nonneg _ (by omega)) (Int.emod_lt_of_pos _ h0)
          · repeat walk_at "s"
            exact fin _
        · repeat walk_at "s"
          exact fin _
theorem ok_pick (T : Txt K mg A D) : FnOk P w K mg base CX0 2 A.pick D.pick ["_law_pen_here", "_law_some"] (spPick K) := by
  refine T.f_pick.ok sc_pick (fun vs H Q E h => ?_) (fun cdv Ar outer s H vs Q E hr h => ?_)
  · obtain ⟨p, z, xs, n, rfl, _⟩ := h
    rfl
  · obtain ⟨p, z, xs, n, rfl, hz, h0, h1, pen, q⟩ := h
    refine ⟨_, (pss_one (ps_ret (pe_ix ix_list (pv 1) (pe_call (ok_draw T) (hr.mono (by decide)) rfl T.m_draw T.f_draw.kp T.b_draw .nil pass0 (pa_cons (pv 0) (pa_cons (pe_callB call_len_seq rfl T.n_len bt_len (pa_cons (pv 1) pa_nil)) pa_nil))) (fun _ _ => rfl)))), ?_⟩
    repeat walk_at "s"
    refine c_len (.inl (.inl (.inl hz.at_))) ?_
    refine ⟨p, xs.length, n, rfl, by omega, by omega, pen, fun d H' G pen' d0 d1 => ?_⟩
    obtain ⟨v, hv, hm⟩ := at_mem d0 d1
    refine r_ixL (.inl (.inl (hz.go G).at_)) hv ?_
    exact q v H' G pen' hm
end
end Ol

namespace Ol
open PySem L2
local macro_rules | `(tactic| walk_at "s") => `(tactic| ((first | with_reducible exact True.intro | ((with_reducible refine' t_var ?hv ?_); (case hv => exact rfl)) | with_reducible refine t_c ?_ | with_reducible refine t_op ?_ | with_reducible refine t_cons ?_ | with_reducible refine t_nil ?_ | with_reducible refine t_cb ?_ | with_reducible refine t_call ?_ | with_reducible refine t_ret ?_ | with_reducible refine t_seq ?_ | with_reducible refine t_asg ?_ | with_reducible refine t_name ?_ | with_reducible refine t_ifS ?_ | with_reducible refine t_next ?_ | with_reducible refine t_B ?_ | with_reducible refine t_test ?_ | with_reducible refine t_and ?_ | with_reducible refine t_or ?_ | with_reducible refine t_not ?_ | with_reducible refine t_andV ?_ | with_reducible refine t_orV ?_ | with_reducible refine t_notV ?_ | with_reducible refine t_if ?_ | with_reducible refine t_chain ?_ | with_reducible refine t_un ?_ | with_reducible refine t_meth ?_ | with_reducible refine t_fld ?_ | with_reducible refine t_sfld ?_ | with_reducible refine t_par3 ?_ | with_reducible refine t_for1 ?_ | with_reducible refine t_forL ?_ | with_reducible refine t_forT ?_ | with_reducible refine c_abs ?_ | with_reducible refine t_make ?_ | with_reducible refine ex_par3 ?_ | with_reducible refine t_drop ?_ | with_reducible refine t_retN ?_ | with_reducible refine t_lst ?_ | with_reducible refine t_tup ?_ | with_reducible refine t_par ?_ | with_reducible refine ex_par ?_ | with_reducible refine t_sl ?_ | with_reducible refine t_part ?_ | with_reducible refine t_noPart ?_ | with_reducible refine t_sub ?_ | with_reducible refine ex_bl ?_ | with_reducible refine ex_int ?_ | with_reducible refine r_I0 ?_ | with_reducible refine r_U ?_ | with_reducible refine r_eqI ?_ | with_reducible refine r_neI ?_ | with_reducible refine r_eqB ?_ | with_reducible refine r_neB ?_ | ((with_reducible refine r_I ?hi ?_); (case hi => first | omega | decide | exact .inl ⟨by omega, by omega⟩ | exact .inr ⟨by omega, by omega⟩ | exact ⟨by omega, by omega, by omega⟩ | exact ⟨by decide, by decide⟩ | exact ⟨by decide, by decide, mix_lt (Int.emod_nonneg _ (by decide)) (Int.lt_of_lt_of_le (Int.emod_lt_of_pos _ (by decide)) (by decide)) (by omega) (by omega) (by decide) (by decide) (by decide) (by decide) (by decide) (by decide)⟩ | exact .inl ⟨Int.lt_of_lt_of_le (by decide) (Int.emod_nonneg _ (by decide)), Int.lt_trans (Int.emod_lt_of_pos _ (by decide)) (by decide)⟩)) | with_reducible refine c_int1 ?_ | with_reducible refine c_intB ?_ | with_reducible refine iteT ?_ | with_reducible refine iteF ?_ | with_reducible refine ite_n ?_ | ((with_reducible refine ite_y ?hc ?_); (case hc => first | omega | decide)) | ((with_reducible refine ite_f ?hc ?_); (case hc => first | omega | decide))); try dsimp only))

section
variable {P : Program} {w : World} {K : PySem.W.Frag} {mg : Str → Option Value} {base : Heap} {A : Ad} {D : Fd}
def spMom2 : Sp := fun vs H Q _ => ∃ (p : Addr) (size : Int) (n : Nat), vs = [.ref p, .int size] ∧ (1 ≤ size ∧ size ≤ 1000000000000) ∧ Pen p H (n + 6) ∧ ∀ (m : Int) (H' : Hp), Go p H H' → Pen p H' n → m.natAbs < 10 ^ 60 → Q (.int m) H'
theorem ok_moment (T : Txt K mg A D) : FnOk P w K mg base CX0 3 A.moment D.moment ["_law_pen_here", "_law_size"] spMom2 := by
  refine T.f_moment.ok sc_moment (fun vs H Q E h => ?_) (fun cdv Ar outer s H vs Q E hr h => ?_)
  · obtain ⟨p, size, n, rfl, _⟩ := h
    rfl
  · obtain ⟨p, size, n, rfl, hs, pen, q⟩ := h
    refine ⟨_, (pss_cons (ps_set (i := 2) sc_moment.nd rfl (Or.inl rfl) (pe_lst (pa_cons pe_int (pa_cons (pe_op op_sub (pv 1) pe_int) (pa_cons (pv 1) (pa_cons (pe_op op_mul pe_int (pv 1)) (pa_cons (pe_op op_add (pv 1) (pe_call (ok_draw T) (hr.mono (by decide)) rfl T.m_draw T.f_draw.kp T.b_draw .nil pass0 (pa_cons (pv 0) (pa_cons (pv 1) pa_nil)))) (pa_cons (pe_call (ok_draw T) (hr.mono (by decide)) rfl T.m_draw T.f_draw.kp T.b_draw .nil pass0 (pa_cons (pv 0) (pa_cons (pe_op op_pow pe_int pe_int) pa_nil))) pa_nil)))))))) (pss_cons (ps_set (i := 3) sc_moment.nd rfl (Or.inl rfl) (pe_call (ok_pick T) (hr.mono (by decide)) rfl T.m_pick T.f_pick.kp T.b_pick .nil pass0 (pa_cons (pv 0) (pa_cons (pe_op op_cat (pv 2) (pe_lst (pa_cons (pe_op op_add (pe_op op_pow pe_int pe_int) (pe_call (ok_draw T) (hr.mono (by decide)) rfl T.m_draw T.f_draw.kp T.b_draw .nil pass0 (pa_cons (pv 0) (pa_cons (pe_op op_pow pe_int pe_int) pa_nil)))) (pa_cons (pe_op op_sub (pe_op op_sub (pe_op op_pow pe_int pe_int) pe_int) (pe_call (ok_draw T) (hr.mono (by decide)) rfl T.m_draw T.f_draw.kp T.b_draw .nil pass0 (pa_cons (pv 0) (pa_cons (pe_op op_pow pe_int pe_int) pa_nil)))) pa_nil)))) pa_nil)))) (pss_one (ps_ret (pe_ifExp (pt_cmpR op_eq (pe_call (ok_draw T) (hr.mono (by decide)) rfl T.m_draw T.f_draw.kp T.b_draw .nil pass0 (pa_cons (pv 0) (pa_cons pe_int pa_nil))) pe_int (nomark _)) (pv 3) (pe_op op_sub pe_int (pv 3))))))), ?_⟩
    repeat walk_at "s"
    refine ⟨p, _, n + 5, rfl, by omega, by omega, pen, fun d1 H1 G1 pen1 a1 b1 => ?_⟩
    repeat walk_at "s"
    refine ⟨p, _, n + 4, rfl, by decide, by decide, pen1, fun d2 H2 G2 pen2 a2 b2 => ?_⟩
    repeat walk_at "s"
    refine ⟨lst_ok rfl, fun z hz => ?_⟩
    have penz := pen2.new (o := .lst [.int 0, .int (size - 1), .int size, .int (3 * size), .int (size + d1), .int d2]) hz
    have atz := pen2.at (o := .lst [.int 0, .int (size - 1), .int size, .int (3 * size), .int (size + d1), .int d2]) hz
    repeat walk_at "s"
    refine ⟨p, _, n + 3, rfl, by decide, by decide, penz, fun d3 H3 G3 pen3 a3 b3 => ?_⟩
    repeat walk_at "s"
    refine ⟨p, _, n + 2, rfl, by decide, by decide, pen3, fun d4 H4 G4 pen4 a4 b4 => ?_⟩
    repeat walk_at "s"
    refine ⟨lst_ok rfl, fun y hy => ?_⟩
    have at4 := (atz.go G3).go G4
    refine r_cat (Same.new hy _ _ at4.at_) upd_same rfl fun x hx => ?_
    have pen5 := pen4.new (o := .lst [.int (10 ^ Int.toNat 59 + d3), .int (10 ^ Int.toNat 60 - 1 - d4)]) hy
    refine ⟨p, x, _, n + 1, rfl, pen5.at hx, by simp, by simp, pen5.new hx, fun v H6 G6 pen6 hv => ?_⟩
    have hm : ∃ m : Int, v = .int m ∧ 0 ≤ m ∧ m.natAbs < 10 ^ 60 := by
      have e6 : (10 : Int) ^ Int.toNat 6 = 1000000 := by decide
      have e12 : (10 : Int) ^ Int.toNat 12 = 10 ^ 12 := by decide
      have e15 : (10 : Int) ^ Int.toNat 15 = 10 ^ 15 := by decide
      have e59 : (10 : Int) ^ Int.toNat 59 = 10 ^ 59 := by decide
      have e60 : (10 : Int) ^ Int.toNat 60 = 10 ^ 60 := by decide
      rw [e6] at b2
      rw [e15] at b3
      rw [e12] at b4
      rw [e59, e60] at hv
      simp only [List.cons_append, List.nil_append, List.mem_cons, List.not_mem_nil, or_false] at hv
      rcases hv with rfl | rfl | rfl | rfl | rfl | rfl | rfl | rfl
      all_goals exact ⟨_, rfl, by omega, by omega⟩
    obtain ⟨m, rfl, m0, m1⟩ := hm
    have G : Go p H H6 := ((G1.trans G2).trans ((Go.new hz).trans G3)).trans (G4.trans ((Go.new hy).trans ((Go.new hx).trans G6)))
    repeat walk_at "s"
    refine ⟨p, _, n, rfl, by decide, by decide, pen6, fun d5 H5 G5 pen5 a5 b5 => ?_⟩
    repeat walk_at "s"
    refine ite_d (fun _ => ?_) fun _ => ?_
    · repeat walk_at "s"
      exact q _ _ (G.trans G5) pen5 m1
    · repeat walk_at "s"
      exact q _ _ (G.trans G5) pen5 (by omega)
def spNear : Sp := fun vs H Q _ => ∃ (size : Int), vs = [.int size] ∧ (1 ≤ size ∧ size ≤ 60) ∧ ∀ H' : Hp, Same H H' → Q (.bl true) H'
theorem ok_near_right (T : Txt K mg A D) : FnG P w K mg base CX0 5 A.near_right D.near_right ["_law_size"] spNear := by
  refine Fun.okN T.f_near_right sc_near_right (fun vs H Q E h => ?_) (fun cdv Ar outer s H vs Q E hg hr h => ?_)
  · obtain ⟨size, rfl, _⟩ := h
    rfl
  · obtain ⟨size, rfl, hs, q⟩ := h
    refine ⟨_, (pss_cons (ps_par3 (i := 2) (j := 3) (l := 4) rfl sc_near_right.nd rfl rfl rfl (by decide) (by decide) (by decide) rfl rfl rfl (pa_cons (pe_make T.mk_Day (ok_Day_init T) (hr.mono (by decide)) rfl T.m_Day T.b_Day_init .nil pass0 (pa_cons (pv 0) pa_nil)) (pa_cons pe_int (pa_cons pe_int pa_nil))) (by rfl)) (pss_cons (ps_for PassesOwn.never rfl (pi_range1 rfl T.n_range (pa_cons (pe_op op_add (pe_op op_mul pe_int (pv 0)) pe_int) pa_nil)) (pg_name (i := 1) sc_near_right.nd rfl (Or.inl rfl)) (pss_cons (ps_if (pt_cmpR op_ne (pe_callB (call_reprD hg hr) rfl T.n_repr bt_repr (pa_cons (pe_lst (pa_cons (pe_op (op_refl T.re_Day_Mod F.fills_int_mod F.slot_int_mod lets_mod (ok_Day_rmod T) (hr.mono (by decide)) T.b_Day_rmod pass0) (pe_callTy call_int1 rfl T.n_int bt_int (pa_cons (pv 1) pa_nil)) (pv 2)) (pa_cons (pe_op (op_refl T.re_Day_FloorDiv F.fills_int_floordiv F.slot_int_floordiv lets_fdiv (ok_Day_rfloordiv T) (hr.mono (by decide)) T.b_Day_rfloordiv pass0) (pv 1) (pv 2)) pa_nil))) pa_nil)) (pe_callB (call_reprD hg hr) rfl T.n_repr bt_repr (pa_cons (pe_lst (pa_cons (pv 3) (pa_cons (pv 4) pa_nil))) pa_nil)) (nomark _)) (pss_one (ps_ret pe_bl)) pss_nil) (pss_cons (ps_set (i := 5) sc_near_right.nd rfl (Or.inl rfl) (pe_callTy call_int1 rfl T.n_int bt_int (pa_cons (pe_op op_sub (pe_un un_neg pe_int) (pv 1)) pa_nil))) (pss_cons (ps_if (pt_cmpR op_ne (pe_callB (call_reprD hg hr) rfl T.n_repr bt_repr (pa_cons (pe_lst (pa_cons (pe_op (op_refl T.re_Day_Mod F.fills_int_mod F.slot_int_mod lets_mod (ok_Day_rmod T) (hr.mono (by decide)) T.b_Day_rmod pass0) (pv 5) (pv 2)) (pa_cons (pe_op (op_refl T.re_Day_FloorDiv F.fills_int_floordiv F.slot_int_floordiv lets_fdiv (ok_Day_rfloordiv T) (hr.mono (by decide)) T.b_Day_rfloordiv pass0) (pv 5) (pv 2)) pa_nil))) pa_nil)) (pe_callB (call_reprD hg hr) rfl T.n_repr bt_repr (pa_cons (pe_lst (pa_cons (pe_op op_sub (pe_op op_sub (pv 0) pe_int) (pv 3)) (pa_cons (pe_op op_sub (pe_un un_neg pe_int) (pv 4)) pa_nil))) pa_nil)) (nomark _)) (pss_one (ps_ret pe_bl)) pss_nil) (pss_cons (ps_set (i := 3) sc_near_right.nd rfl (Or.inl rfl) (pe_op op_add (pv 3) pe_int)) (pss_one (ps_if (pt_cmpR op_eq (pv 3) (pv 0) (nomark _)) (pss_one (ps_par (i := 3) (j := 4) rfl sc_near_right.nd rfl rfl (by decide) rfl rfl (pa_cons pe_int (pa_cons (pe_op op_add (pv 4) pe_int) pa_nil)) (by rfl))) pss_nil))))))) (pss_one (ps_ret pe_bl)))), ?_⟩
    repeat walk_at "s"
    refine make_day ⟨hs.1, by omega⟩ fun b H1 S1 nb db => ?_
    repeat walk_at "s"
    refine ex_rng (n := (2 * size + 2).toNat) (by omega) (by omega) (fun i σ' H' => (∃ v1 v2, σ' = [some (.int size), v1, some (.ref b), some (.int ((i : Int) % size)), some (.int ((i : Int) / size)), v2]) ∧ Same H H' ∧ DayAt A.Day H' b size) ⟨⟨_, _, by rw [show ((0 : Nat) : Int) % size = 0 by simp, show ((0 : Nat) : Int) / size = 0 by simp]; rfl⟩, S1, db⟩ ?_ ?_
    · rintro i σ' H2 hi ⟨⟨v1, v2, rfl⟩, S2, d2⟩
      have hL : 0 < size := by omega
      have a0 := Int.emod_nonneg (i : Int) (show size ≠ 0 by omega)
      have a1 := Int.emod_lt_of_pos (i : Int) hL
      have a2 : 0 ≤ (i : Int) / size := Int.ediv_nonneg (by omega) (by omega)
      have a3 : (i : Int) / size ≤ i := Int.ediv_le_self _ (by omega)
      obtain ⟨nm, nd⟩ := near_neg (i := (i : Int)) hL
      repeat walk_at "s"
      refine r_rmod d2 (by omega) ?_
      repeat walk_at "s"
      refine r_rfdiv d2 (by omega) ?_
      repeat walk_at "s"
      refine ⟨lst_ok rfl, fun z1 hz1 => ?_⟩
      repeat walk_at "s"
      refine r_reprL2 (.inl (.inl upd_same)) (by omega) (by omega) ?_
      repeat walk_at "s"
      refine ⟨lst_ok rfl, fun z2 hz2 => ?_⟩
      repeat walk_at "s"
      refine r_reprL2 (.inl (.inl upd_same)) (by omega) (by omega) ?_
      refine r_neS1 rfl ?_
      repeat walk_at "s"
      have d3 := (d2.new (o := .lst [.int ((i : Int) % size), .int ((i : Int) / size)]) hz1).new (o := .lst [.int ((i : Int) % size), .int ((i : Int) / size)]) hz2
      refine r_rmod d3 (by omega) ?_
      repeat walk_at "s"
      refine r_rfdiv d3 (by omega) ?_
      repeat walk_at "s"
      refine ⟨lst_ok rfl, fun z3 hz3 => ?_⟩
      repeat walk_at "s"
      refine r_reprL2 (.inl (.inl upd_same)) (by rw [nm]; omega) (by rw [nd]; omega) ?_
      repeat walk_at "s"
      refine ⟨lst_ok rfl, fun z4 hz4 => ?_⟩
      repeat walk_at "s"
      refine r_reprL2 (.inl (.inl upd_same)) (by omega) (by omega) ?_
      refine r_neS1 (by rw [nm, nd]) ?_
      repeat walk_at "s"
      have S5 := ((S2.trans (Same.new hz1)).trans (Same.new hz2)).trans ((Same.new hz3).trans (Same.new (o := .lst [.int (size - 1 - (i : Int) % size), .int (-1 - (i : Int) / size)]) hz4))
      have d5 := (d3.new (o := .lst [.int ((-1 - (i : Int)) % size), .int ((-1 - (i : Int)) / size)]) hz3).new (o := .lst [.int (size - 1 - (i : Int) % size), .int (-1 - (i : Int) / size)]) hz4
      refine ite_d (fun he => ?_) fun he => ?_
      · repeat walk_at "s"
        obtain ⟨e1, e2⟩ := near_up hL he
        exact ⟨⟨_, _, by rw [show ((i + 1 : Nat) : Int) = (i : Int) + 1 by omega, e1, e2]; rfl⟩, S5, d5⟩
      · repeat walk_at "s"
        obtain ⟨e1, e2⟩ := near_on hL he
        exact ⟨⟨_, _, by rw [show ((i + 1 : Nat) : Int) = (i : Int) + 1 by omega, e1, e2]; rfl⟩, S5, d5⟩
    · rintro σ' H' ⟨⟨v1, v2, rfl⟩, S2, d2⟩
      repeat walk_at "s"
      exact q _ S2
def spFar (C : Addr) : Sp := fun vs H Q _ => ∃ (p : Addr) (L : Int) (n : Nat), vs = [.ref p, .int L] ∧ (1 ≤ L ∧ L ≤ 1000000000000) ∧ Pen p H (n + 12) ∧ ∀ H' : Hp, Go p H H' → Pen p H' n → Q (.bl true) H'
theorem ok_far_right (T : Txt K mg A D) : FnG P w K mg base CX0 5 A.far_right D.far_right ["_law_pen_here", "_law_size"] (spFar A.Day) := by
  refine Fun.okN T.f_far_right sc_far_right (fun vs H Q E h => ?_) (fun cdv Ar outer s H vs Q E hg hr h => ?_)
  · obtain ⟨p, L, n, rfl, _⟩ := h
    rfl
  · obtain ⟨p, L, n, rfl, hL, pen, q⟩ := h
    refine ⟨_, (pss_cons (ps_par3 (i := 2) (j := 3) (l := 4) rfl sc_far_right.nd rfl rfl rfl (by decide) (by decide) (by decide) rfl rfl rfl (pa_cons (pe_makeK0 T.mk_Day (ok_Day_init T) (hr.mono (by decide)) rfl T.m_Day (Fun.kbn T.f_Day_init (ps := ["self", "length"]) (ks := ["length"]) 1 [0] fun _ _ _ _ _ _ us ws h1 h2 => match us, ws, h1, h2 with | [_], [_], _, _ => rfl) pass0 (pk_cons (pv 1) pk_nil)) (pa_cons (pe_call (ok_moment T) (hr.mono (by decide)) rfl T.m_moment T.f_moment.kp T.b_moment .nil pass0 (pa_cons (pv 0) (pa_cons (pv 1) pa_nil))) (pa_cons (pe_call (ok_moment T) (hr.mono (by decide)) rfl T.m_moment T.f_moment.kp T.b_moment .nil pass0 (pa_cons (pv 0) (pa_cons (pv 1) pa_nil))) pa_nil))) (by rfl)) (pss_cons (ps_par3 (i := 5) (j := 6) (l := 7) rfl sc_far_right.nd rfl rfl rfl (by decide) (by decide) (by decide) rfl rfl rfl (pa_cons (pe_op (op_refl T.re_Day_Mod F.fills_int_mod F.slot_int_mod lets_mod (ok_Day_rmod T) (hr.mono (by decide)) T.b_Day_rmod pass0) (pe_callTy call_int1 rfl T.n_int bt_int (pa_cons (pv 3) pa_nil)) (pv 2)) (pa_cons (pe_op (op_refl T.re_Day_FloorDiv F.fills_int_floordiv F.slot_int_floordiv lets_fdiv (ok_Day_rfloordiv T) (hr.mono (by decide)) T.b_Day_rfloordiv pass0) (pv 3) (pv 2)) (pa_cons (pe_meth (pv 2) T.cl_Day T.me_Day_forward (ok_Day_forward T) (hr.mono (by decide)) T.b_Day_forward .nil pass0 (pa_cons (pv 3) (pa_cons (pv 4) pa_nil))) pa_nil))) (by rfl)) (pss_cons (ps_if (PW.pt (pw_or (pt_not (pt_chain op_le op_lt pe_int (pv 5) (pv 1))) (pw_or (pt_cmpR op_ne (pe_op op_add (pe_op op_mul (pv 6) (pv 1)) (pv 5)) (pv 3) (nomark _)) (pw_or1 (pt_not (pt_chain op_le op_lt pe_int (pv 7) (pv 1))))))) (pss_one (ps_ret pe_bl)) pss_nil) (pss_cons (ps_if (PW.pt (pw_or (pt_cmpR op_ne (pe_callB (call_reprD hg hr) rfl T.n_repr bt_repr (pa_cons (pe_methK0 (pv 2) T.cl_Day T.me_Day_forward (ok_Day_forward T) (hr.mono (by decide)) (Fun.kbn T.f_Day_forward (ps := ["self", "a", "b"]) (ks := ["b", "a"]) 1 [1, 0] fun _ _ _ _ _ _ us ws h1 h2 => match us, ws, h1, h2 with | [_], [_, _], _, _ => rfl) pass0 (pk_cons (pv 4) (pk_cons (pv 3) pk_nil))) pa_nil)) (pe_callB (call_reprD hg hr) rfl T.n_repr bt_repr (pa_cons (pv 7) pa_nil)) (nomark _)) (pw_or1 (pt_cmpR op_ne (pe_meth (pv 2) T.cl_Day T.me_Day_forward (ok_Day_forward T) (hr.mono (by decide)) T.b_Day_forward .nil pass0 (pa_cons (pv 3) (pa_cons (pv 3) pa_nil))) pe_int (nomark _))))) (pss_one (ps_ret pe_bl)) pss_nil) (pss_one (ps_ret (pe_and (pe_cmpR op_eq (pe_op op_mul (pe_op op_fdivW (pe_op op_sub (pe_op op_sub (pv 4) (pv 3)) (pv 7)) (pv 1)) (pv 1)) (pe_op op_sub (pe_op op_sub (pv 4) (pv 3)) (pv 7)) (nomark _)) (pe_one (pe_cmpR op_is_bl (pe_cmpR (op_inO T.me_Day_contains (ok_Day_contains T) (hr.mono (by decide)) T.b_Day_contains pass0) (pv 5) (pv 2) rfl) pe_bl (nomark _)))))))))), ?_⟩
    repeat walk_at "s"
    refine t_makeK ?_
    repeat walk_at "s"
    refine ⟨rfl, rfl, make_day hL fun b H1 S1 nb db => ?_⟩
    have pen1 := pen.same S1
    repeat walk_at "s"
    refine ⟨p, L, n + 6, rfl, hL, pen1, fun x H2 G2 pen2 hx => ?_⟩
    have d2 := db.go pen1 G2
    repeat walk_at "s"
    refine ⟨p, L, n, rfl, hL, pen2, fun y H3 G3 pen3 hy => ?_⟩
    have d3 := d2.go pen2 G3
    have m0 := fun t : Int => Int.emod_nonneg t (show L ≠ 0 by omega)
    have m1 := fun t : Int => Int.emod_lt_of_pos t (show 0 < L by omega)
    have x0 := m0 x
    have x1 := m1 x
    have w0 := m0 (y - x)
    have w1 := m1 (y - x)
    repeat walk_at "s"
    refine r_rmod d3 hx ?_
    repeat walk_at "s"
    refine r_rfdiv d3 hx ?_
    repeat walk_at "s"
    refine x_fwd d3 ?_
    repeat walk_at "s"
    refine s_fwd d3 hx hy fun H4 S4 => ?_
    have d4 := d3.same S4
    repeat walk_at "s"
    refine ite_y far_sum ?_
    repeat walk_at "s"
    refine t_methK ?_
    repeat walk_at "s"
    refine x_fwd d4 ?_
    repeat walk_at "s"
    refine ⟨rfl, s_fwd d4 hx hy fun H5 S5 => ?_⟩
    have d5 := d4.same S5
    repeat walk_at "s"
    refine r_reprI (by omega) ?_
    repeat walk_at "s"
    repeat walk_at "s"
    refine r_reprI (by omega) ?_
    refine r_neS1 rfl ?_
    repeat walk_at "s"
    refine x_fwd d5 ?_
    repeat walk_at "s"
    refine s_fwd d5 hx hx fun H6 S6 => ?_
    have d6 := d5.same S6
    repeat walk_at "s"
    refine ite_y (by rw [Int.sub_self, Int.zero_emod]) ?_
    repeat walk_at "s"
    refine r_I (wide_div (b := 41) (by omega) (by omega) (by decide) (by decide)) ?_
    repeat walk_at "s"
    refine ite_y (far_wait (by omega)) ?_
    repeat walk_at "s"
    refine r_din d6 ?_
    repeat walk_at "s"
    refine ⟨_, _, rfl, rfl, ?_⟩
    have fin : Q (.bl true) H6 := q _ (((Same.go S1).trans G2).trans (G3.trans (Same.go ((S4.trans S5).trans S6)))) (pen3.same ((S4.trans S5).trans S6))
    have e : decide (id (decide (0 ≤ x % L ∧ x % L ≤ L - 1)) = true) = true := by
      rw [decide_eq_true (⟨x0, by omega⟩ : 0 ≤ x % L ∧ x % L ≤ L - 1)]; rfl
    rw [e]
    exact fin
def spVals : Sp := fun vs H Q _ => ∃ (p : Addr) (L : Int) (n : Nat), vs = [.ref p, .int L] ∧ (1 ≤ L ∧ L ≤ 1000000000000) ∧ Pen p H (n + 2) ∧ ∀ H' : Hp, Go p H H' → Pen p H' n → Q (.bl true) H'
theorem ok_values_right (T : Txt K mg A D) : FnOk P w K mg base CX0 5 A.values_right D.values_right ["_law_pen_here", "_law_size"] spVals := by
  refine T.f_values_right.ok sc_values_right (fun vs H Q E h => ?_) (fun cdv Ar outer s H vs Q E hr h => ?_)
  · obtain ⟨p, L, n, rfl, _⟩ := h
    rfl
  · obtain ⟨p, L, n, rfl, hL, pen, q⟩ := h
    refine ⟨_, (pss_cons (ps_set (i := 2) sc_values_right.nd rfl (Or.inr rfl) (pe_make T.mk_Day (ok_Day_init T) (hr.mono (by decide)) rfl T.m_Day T.b_Day_init .nil pass0 (pa_cons (pv 1) pa_nil))) (pss_cons (ps_if (pt_cmpR (op_neD hr.units) (pe_lc (own := [("_law_each", 5)]) (g := gName 5) (by rfl) sc_values_right.nd (pi_tup (pe_tup (pa_cons pe_int (pa_cons (pe_op op_sub (pv 1) pe_int) (pa_cons (pe_call (ok_draw T) (hr.mono (by decide)) rfl T.m_draw T.f_draw.kp T.b_draw .nil pass0 (pa_cons (pv 0) (pa_cons (pv 1) pa_nil))) pa_nil))))) (blkOk_by (own := [("_law_each", 5)]) (N := ["_law_pen_here", "_law_size", "_law_day", "_law_odd", "_law_other", "_law_each"]) (sc := defScope s_values_right) (by decide +kernel)) (fun _ _ _ _ _ => pg_name (i := 5) sc_values_right.nd rfl (Or.inl rfl)) (fun _ _ _ _ _ => pts_one (pt_cmpR (op_notInO T.me_Day_contains (ok_Day_contains T) (hr.mono (by decide)) T.b_Day_contains pass0) (pv 5) (pv 2) rfl)) (fun _ _ _ _ _ => (pv 5))) (pe_lst pa_nil) (nomark _)) (pss_one (ps_ret pe_bl)) pss_nil) (pss_cons (ps_set (i := 3) sc_values_right.nd rfl (Or.inl rfl) (pe_lst (pa_cons (pe_un un_neg pe_int) (pa_cons (pv 1) (pa_cons (pe_op op_add (pv 1) (pe_call (ok_draw T) (hr.mono (by decide)) rfl T.m_draw T.f_draw.kp T.b_draw .nil pass0 (pa_cons (pv 0) (pa_cons pe_int pa_nil)))) (pa_cons pe_non (pa_cons pe_bl (pa_cons pe_bl (pa_cons pe_str (pa_cons pe_str (pa_cons (pe_tup (pa_cons pe_int pa_nil)) (pa_cons (pe_lst (pa_cons pe_int pa_nil)) (pa_cons (pe_disp (pps_cons pe_int pe_int pps_nil) (by rfl) (by rfl) (fun z => by cases z) (by decide)) (pa_cons (pv 2) (pa_cons (pe_op op_sub pe_int (pe_op op_pow pe_int pe_int)) pa_nil))))))))))))))) (pss_cons (ps_if (pt_cmpR (op_neD hr.units) (pe_lc (own := [("_law_each", 5)]) (g := gName 5) (by rfl) sc_values_right.nd (pi_list (pv 3)) (blkOk_by (own := [("_law_each", 5)]) (N := ["_law_pen_here", "_law_size", "_law_day", "_law_odd", "_law_other", "_law_each"]) (sc := defScope s_values_right) (by decide +kernel)) (fun _ _ _ _ _ => pg_name (i := 5) sc_values_right.nd rfl (Or.inl rfl)) (fun _ _ _ _ _ => pts_one (pt_cmpR (op_inO T.me_Day_contains (ok_Day_contains T) (hr.mono (by decide)) T.b_Day_contains pass0) (pv 5) (pv 2) rfl)) (fun _ _ _ _ _ => (pv 5))) (pe_lst pa_nil) (nomark _)) (pss_one (ps_ret pe_bl)) pss_nil) (pss_cons (ps_set (i := 4) sc_values_right.nd rfl (Or.inl rfl) (pe_ifExp (pt_cmpR op_lt (pv 1) (pe_op op_pow pe_int pe_int) (nomark _)) (pe_make T.mk_Day (ok_Day_init T) (hr.mono (by decide)) rfl T.m_Day T.b_Day_init .nil pass0 (pa_cons (pe_op op_add (pv 1) pe_int) pa_nil)) (pe_make T.mk_Day (ok_Day_init T) (hr.mono (by decide)) rfl T.m_Day T.b_Day_init .nil pass0 (pa_cons pe_int pa_nil)))) (pss_cons (ps_if (PW.pt (pw_or (pt_cmpR (op_neO T.ne_Day (ok_Day_eq T) (hr.mono (by decide)) T.b_Day_eq pass0) (pv 2) (pe_make T.mk_Day (ok_Day_init T) (hr.mono (by decide)) rfl T.m_Day T.b_Day_init .nil pass0 (pa_cons (pv 1) pa_nil)) (nomark _)) (pw_or (pt_cmpR (op_cmpO rich_eq T.co_Day_Eq (ok_Day_eq T) (hr.mono (by decide)) T.b_Day_eq pass0) (pv 2) (pv 4) (nomark _)) (pw_or1 (pt_cmpR (op_inNo T.me_Day_eq.at_ T.me_Day_eq.fn (ok_Day_eq T) (hr.mono (by decide)) T.b_Day_eq pass0) (pv 2) (pe_lst (pa_cons (pv 1) (pa_cons (pe_callTy call_str_int rfl T.n_str bt_str (pa_cons (pv 1) pa_nil)) (pa_cons pe_non (pa_cons (pe_lst (pa_cons (pv 2) pa_nil)) (pa_cons (pe_tup (pa_cons (pv 1) pa_nil)) pa_nil)))))) (by rfl)))))) (pss_one (ps_ret pe_bl)) pss_nil) (pss_one (ps_ret (pe_cmpR (op_eqD hr.units) (pe_lst (pa_cons (pe_callTy (call_strO T.me_Day_str (ok_Day_str T) (hr.mono (by decide)) T.b_Day_str pass0) rfl T.n_str bt_str (pa_cons (pv 2) pa_nil)) (pa_cons (pe_fld (pv 2) rfl) (pa_cons (ClX.pe_cval (pe_glob (v := .ref A.Day) rfl T.m_Day rfl)) pa_nil)))) (pe_lst (pa_cons (pe_callTy call_str_int rfl T.n_str bt_str (pa_cons (pv 1) pa_nil)) (pa_cons (pv 1) (pa_cons (pe_op op_pow pe_int pe_int) pa_nil)))) (nomark _)))))))))), ?_⟩
    repeat walk_at "s"
    refine make_day hL fun b H1 S1 nb db => ?_
    have pen1 := pen.same S1
    repeat walk_at "s"
    refine t_lcT ?_
    repeat walk_at "s"
    refine ⟨p, L, n + 1, rfl, by omega, by omega, pen1, fun d1 H2 G2 pen2 a1 b1 => ?_⟩
    have d2 := db.go pen1 G2
    repeat walk_at "s"
    refine ⟨lst_ok rfl, fun t1 ht1 => ?_⟩
    refine ⟨t1, rfl, ⟨_, .inl (.inl upd_same)⟩, fun c1 hc1 => ?_⟩
    have d3 := d2.new (o := .tup [.int 0, .int (L - 1), .int d1]) ht1
    have pen3 := pen2.new (o := .tup [.int 0, .int (L - 1), .int d1]) ht1
    have d4 := d3.new (o := .lst []) hc1
    have pen4 := pen3.new (o := .lst []) hc1
    refine lcT_no (xs := [.int 0, .int (L - 1), .int d1]) (.inl (.inl (Same.new hc1 _ _ upd_same))) (fun x hx R hR => ?_) ?_
    · have hi : ∃ i : Int, x = .int i ∧ 0 ≤ i ∧ i ≤ L - 1 := by
        simp only [List.mem_cons, List.not_mem_nil, or_false] at hx
        rcases hx with rfl | rfl | rfl
        all_goals exact ⟨_, rfl, by omega, by omega⟩
      obtain ⟨i, rfl, i0, i1⟩ := hi
      repeat walk_at "s"
      refine ⟨rfl, ?_⟩
      repeat walk_at "s"
      refine r_din d4 ?_
      repeat walk_at "s"
      rw [decide_eq_true (⟨i0, i1⟩ : 0 ≤ i ∧ i ≤ L - 1)]
      exact hR _
    repeat walk_at "s"
    refine ⟨lst_ok rfl, fun e1 he1 => ?_⟩
    have d5 := d4.new (o := .lst []) he1
    have pen5 := pen4.new (o := .lst []) he1
    refine r_neNil (ns := []) (.inl (.inl (Same.new he1 _ _ upd_same))) (.inl (.inl upd_same)) ?_
    rw [List.isEmpty_nil]
    repeat walk_at "s"
    refine ⟨p, _, n, rfl, by decide, by decide, pen5, fun d6 H6 G6 pen6 a6 b6 => ?_⟩
    have d7 := d5.go pen5 G6
    repeat walk_at "s"
    refine ⟨lst_ok rfl, fun t2 ht2 => ?_⟩
    repeat walk_at "s"
    refine ⟨lst_ok rfl, fun l2 hl2 => ?_⟩
    repeat walk_at "s"
    intro k1 hk1
    refine ⟨upd_same, [(.inl 0, .int 0)], rfl, by decide, ?_⟩
    have S2 := ((Same.new (o := .tup [.int 0]) ht2).trans (Same.new (o := .lst [.int 0]) hl2))
    have et2 := (Same.new (o := .lst [.int 0]) hl2) _ _ (upd_same (H := H6) (a := t2) (o := .tup [.int 0]))
    have el2 := upd_same (H := upd H6 t2 (.tup [.int 0])) (a := l2) (o := .lst [.int 0])
    generalize upd (upd H6 t2 (.tup [.int 0])) l2 (.lst [.int 0]) = H7 at S2 et2 el2 hk1 ⊢
    have S3 : Same H7 (upd (upd H7 k1 (.dK [])) k1 (.dK (mergeK [] [(.inl 0, .int 0)]))) := fun b' o' e => by rw [upd_ne (ne_of_none e hk1), upd_ne (ne_of_none e hk1)]; exact e
    have ek1 := upd_same (H := upd H7 k1 (.dK [])) (a := k1) (o := .dK (mergeK [] [(.inl 0, .int 0)]))
    have et3 := S3 _ _ et2
    have el3 := S3 _ _ el2
    have S23 := S2.trans S3
    generalize upd (upd H7 k1 (.dK [])) k1 (.dK (mergeK [] [(.inl 0, .int 0)])) = H8 at S23 ek1 et3 el3 ⊢
    have d8 := d7.same S23
    have pen8 := pen6.same S23
    repeat walk_at "s"
    refine ⟨lst_ok rfl, fun o1 ho1 => ?_⟩
    have d9 := d8.new (o := .lst [.int (-1), .int L, .int (L + d6), .non, .bl true, .bl false, .str "0", .str "", .ref t2, .ref l2, .ref k1, .ref b, .int (0 - 10 ^ Int.toNat 40)]) ho1
    have pen9 := pen8.new (o := .lst [.int (-1), .int L, .int (L + d6), .non, .bl true, .bl false, .str "0", .str "", .ref t2, .ref l2, .ref k1, .ref b, .int (0 - 10 ^ Int.toNat 40)]) ho1
    have S9 := Same.new (o := .lst [.int (-1), .int L, .int (L + d6), .non, .bl true, .bl false, .str "0", .str "", .ref t2, .ref l2, .ref k1, .ref b, .int (0 - 10 ^ Int.toNat 40)]) ho1
    have eo := upd_same (H := H8) (a := o1) (o := .lst [.int (-1), .int L, .int (L + d6), .non, .bl true, .bl false, .str "0", .str "", .ref t2, .ref l2, .ref k1, .ref b, .int (0 - 10 ^ Int.toNat 40)])
    have ek9 := S9 _ _ ek1
    have et9 := S9 _ _ et3
    have el9 := S9 _ _ el3
    generalize upd H8 o1 (.lst [.int (-1), .int L, .int (L + d6), .non, .bl true, .bl false, .str "0", .str "", .ref t2, .ref l2, .ref k1, .ref b, .int (0 - 10 ^ Int.toNat 40)]) = H9 at S9 d9 pen9 eo ek9 et9 el9 ⊢
    repeat walk_at "s"
    refine t_lcL ?_
    repeat walk_at "s"
    refine ⟨o1, rfl, ⟨_, .inl (.inl eo)⟩, fun c2 hc2 => ?_⟩
    have S10 := Same.new (o := .lst []) hc2
    have d10 := d9.same S10
    have pen10 := pen9.same S10
    have e40 : (10 : Int) ^ Int.toNat 40 = 10 ^ 40 := by decide
    rw [e40] at eo
    refine lcL_no (.inl (.inl (S10 _ _ eo))) (fun x hx R hR => ?_) ?_
    · have hi : (∃ i : Int, x = .int i ∧ ¬ (0 ≤ i ∧ i ≤ L - 1)) ∨ NoInt K (upd H9 c2 (.lst [])) x := by
        obtain ⟨_, dx, hb⟩ := id d10
        simp only [List.mem_cons, List.not_mem_nil, or_false] at hx
        rcases hx with rfl | rfl | rfl | rfl | rfl | rfl | rfl | rfl | rfl | rfl | rfl | rfl | rfl
        · exact .inl ⟨_, rfl, by omega⟩
        · exact .inl ⟨_, rfl, by omega⟩
        · exact .inl ⟨_, rfl, by omega⟩
        · exact .inr .non
        · exact .inr (.bl _)
        · exact .inr (.bl _)
        · exact .inr (.str _)
        · exact .inr (.str _)
        · exact .inr (.tup (S10 _ _ et9))
        · exact .inr (.lst (S10 _ _ el9))
        · exact .inr (.dK (S10 _ _ ek9))
        · exact .inr (.own T.is_Day T.dk_int hb)
        · exact .inl ⟨_, rfl, by omega⟩
      repeat walk_at "s"
      refine ⟨rfl, ?_⟩
      repeat walk_at "s"
      rcases hi with ⟨i, rfl, hi⟩ | hi
      · refine r_din d10 ?_
        repeat walk_at "s"
        rw [decide_eq_false hi]
        exact hR _
      · refine r_dinN d10 hi ?_
        repeat walk_at "s"
        exact hR _
    repeat walk_at "s"
    refine ⟨lst_ok rfl, fun e2 he2 => ?_⟩
    have d11 := d10.new (o := .lst []) he2
    have pen11 := pen10.new (o := .lst []) he2
    refine r_neNil (ns := []) (.inl (.inl (Same.new he2 _ _ upd_same))) (.inl (.inl upd_same)) ?_
    rw [List.isEmpty_nil]
    repeat walk_at "s"
    have G11 := ((((Same.go (p := p) S1).trans G2).trans ((Go.new ht1).trans (Go.new hc1))).trans (Go.new he1)).trans ((G6.trans ((Same.go S23).trans (Same.go S9))).trans ((Go.new hc2).trans (Go.new (o := .lst []) he2)))
    generalize upd (upd H9 c2 (.lst [])) e2 (.lst []) = H11 at d11 pen11 G11 ⊢
    have e12 : (10 : Int) ^ Int.toNat 12 = 1000000000000 := by decide
    rw [e12]
    refine if_mk (fun v H' => ∃ o M, v = .ref o ∧ DayAt A.Day H' o M ∧ M ≠ L ∧ Same H11 H') (fun hc Q q => ?_) (fun hc Q q => ?_) ?_
    · have hc := of_decide_eq_true hc
      repeat walk_at "s"
      exact make_day (L := L + 1) ⟨by omega, by omega⟩ fun o H12 S12 no do' => q _ _ ⟨o, _, rfl, do', by omega, S12⟩
    · have hc := of_decide_eq_false hc
      repeat walk_at "s"
      exact make_day (L := 1) ⟨by omega, by omega⟩ fun o H12 S12 no do' => q _ _ ⟨o, _, rfl, do', by omega, S12⟩
    rintro v H12 ⟨o, M, rfl, dO, hM, S12⟩
    have d12 := d11.same S12
    have pen12 := pen11.same S12
    repeat walk_at "s"
    refine make_day hL fun c H13 S13 nc dc => ?_
    have d13 := d12.same S13
    have pen13 := pen12.same S13
    have dO13 := dO.same S13
    repeat walk_at "s"
    refine r_dne2 T.is_Day d13 dc ?_
    repeat walk_at "s"
    refine r_deq2 T.is_Day d13 dO13 ?_
    repeat walk_at "s"
    have hlog : L.natAbs.log2 < 1920 := Nat.lt_of_lt_of_le (PySem.Flt.log2_lt_of (k := 41) (by decide) (by omega)) (by decide)
    refine ⟨hlog, ?_⟩
    repeat walk_at "s"
    refine ⟨lst_ok rfl, fun l3 hl3 => ?_⟩
    repeat walk_at "s"
    refine ⟨lst_ok rfl, fun t3 ht3 => ?_⟩
    have S14 := (Same.new (o := .lst [.ref b]) hl3).trans (Same.new (o := .tup [.int L]) ht3)
    have el3 := Same.new (o := .tup [.int L]) ht3 _ _ (upd_same (H := H13) (a := l3) (o := .lst [.ref b]))
    have et3 := upd_same (H := upd H13 l3 (.lst [.ref b])) (a := t3) (o := .tup [.int L])
    have d14 := d13.same S14
    have pen14 := pen13.same S14
    generalize upd (upd H13 l3 (.lst [.ref b])) t3 (.tup [.int L]) = H14 at S14 el3 et3 d14 pen14 ⊢
    repeat walk_at "s"
    refine ⟨lst_ok rfl, fun z3 hz3 => ?_⟩
    have S15 := Same.new (o := .lst [.int L, .str (toString L), .non, .ref l3, .ref t3]) hz3
    refine ⟨b, z3, _, rfl, rfl, upd_same, fun od z hz => ?_, ?_⟩
    · have F : Same H14 (upd (upd H14 z3 (.lst [.int L, .str (toString L), .non, .ref l3, .ref t3])) z3 (.frz od (.lst [.int L, .str (toString L), .non, .ref l3, .ref t3]))) := fun a o e => by rw [upd_ne (ne_of_none e hz3), upd_ne (ne_of_none e hz3)]; exact e
      have dF := d14.same F
      obtain ⟨_, dx, hb⟩ := id d14
      have hbF := F _ _ hb
      simp only [List.mem_cons, List.not_mem_nil, or_false] at hz
      rcases hz with rfl | rfl | rfl | rfl | rfl
      · exact ⟨.int L T.sd_int, (fun e => by cases e), ⟨dx, _, hbF⟩, fun Q' q' => ⟨b, _, L, rfl, dF, .inr ⟨_, .base (.int L), T.kd_int, q'⟩⟩⟩
      · exact ⟨.str _ T.sd_str, (fun e => by cases e), ⟨dx, _, hbF⟩, fun Q' q' => ⟨b, _, L, rfl, dF, .inr ⟨_, .base (.str _), T.kd_str, q'⟩⟩⟩
      · exact ⟨.non T.sd_non, (fun e => by cases e), ⟨dx, _, hbF⟩, fun Q' q' => ⟨b, _, L, rfl, dF, .inr ⟨_, .base .non, T.kd_non, q'⟩⟩⟩
      · exact ⟨.lst (F _ _ el3) T.sd_list, (fun e => by cases e; rw [el3] at hb; cases hb), ⟨dx, _, hbF⟩, fun Q' q' => ⟨b, _, L, rfl, dF, .inr ⟨_, .base (.lst (F _ _ el3)), T.kd_list, q'⟩⟩⟩
      · exact ⟨.tup (F _ _ et3) T.sd_tuple, (fun e => by cases e; rw [et3] at hb; cases hb), ⟨dx, _, hbF⟩, fun Q' q' => ⟨b, _, L, rfl, dF, .inr ⟨_, .base (.tup (F _ _ et3)), T.kd_tuple, q'⟩⟩⟩
    repeat walk_at "s"
    have d15 := d14.same S15
    have pen15 := pen14.same S15
    have S16 := ((S12.trans S13).trans S14).trans S15
    generalize upd H14 z3 (.lst [.int L, .str (toString L), .non, .ref l3, .ref t3]) = H15 at S16 d15 pen15 ⊢
    refine r_dstr d15 ?_
    repeat walk_at "s"
    refine x_len T.cl_Day T.na_Day_length d15 ?_
    repeat walk_at "s"
    refine t_cval ?_
    repeat walk_at "s"
    obtain ⟨tk, hcv⟩ := T.cv_Day_MOST
    refine ⟨A.Day, _, .int 1000000000000, _, rfl, T.cr_Day, ⟨hcv, _, rfl⟩, ?_⟩
    repeat walk_at "s"
    refine ⟨lst_ok rfl, fun z4 hz4 => ?_⟩
    repeat walk_at "s"
    refine ⟨hlog, ?_⟩
    repeat walk_at "s"
    rw [e12]
    refine ⟨lst_ok rfl, fun z5 hz5 => ?_⟩
    have S17 := (Same.new (o := .lst [.str (toString L), .int L, .int 1000000000000]) hz4).trans (Same.new (o := .lst [.str (toString L), .int L, .int 1000000000000]) hz5)
    refine r_eqSame (d := .list [.str (toString L), .int L, .int 1000000000000]) (.lst (.inl (.inl (Same.new hz5 _ _ upd_same))) (.cons (.str _) (.cons (.int _) (.cons (.int _) .nil)))) (.lst (.inl (.inl upd_same)) (.cons (.str _) (.cons (.int _) (.cons (.int _) .nil)))) (by show ((PyData.strOk _ && (true && (true && true))) && decide _) = true; rw [strOk_of]; rfl) ?_
    exact q _ (G11.trans ((Same.go S16).trans (Same.go S17))) (pen15.same S17)
def spLaw (K : PySem.W.Frag) : Sp := fun vs H Q _ => ∃ (a : Addr) (ns : List Int), vs = [.ref a] ∧ SqL K H a (ns.map V.int) ∧ ns.length ≤ 63 ∧ ∀ H', Q (.bl true) H'
theorem ok_law (T : Txt K mg A D) : FnG P w K mg base CX0 6 A.law D.law ["_law_script"] (spLaw K) := by
  refine Fun.okN T.f_law sc_law (fun vs H Q E h => ?_) (fun cdv Ar outer s H vs Q E hg hr h => ?_)
  · obtain ⟨a, ns, rfl, _⟩ := h
    rfl
  · obtain ⟨a, ns, rfl, hS, hn, q⟩ := h
    refine ⟨_, (pss_cons (ps_set (i := 1) sc_law.nd rfl (Or.inl rfl) (pe_call (ok_pen T) (hr.mono (by decide)) rfl T.m_pen T.f_pen.kp T.b_pen .nil pass0 (pa_cons (pv 0) pa_nil))) (pss_cons (ps_for PassesOwn.never rfl (pi_range1 rfl T.n_range (pa_cons pe_int pa_nil)) (pg_name (i := 2) sc_law.nd rfl (Or.inl rfl)) (pss_cons (ps_set (i := 4) sc_law.nd rfl (Or.inl rfl) (pe_call (ok_pick T) (hr.mono (by decide)) rfl T.m_pick T.f_pick.kp T.b_pick .nil pass0 (pa_cons (pv 1) (pa_cons (pe_lst (pa_cons pe_int (pa_cons pe_int (pa_cons pe_int (pa_cons pe_int (pa_cons pe_int (pa_cons (pe_op op_add pe_int (pe_call (ok_draw T) (hr.mono (by decide)) rfl T.m_draw T.f_draw.kp T.b_draw .nil pass0 (pa_cons (pv 1) (pa_cons pe_int pa_nil)))) (pa_cons pe_int (pa_cons (pe_op op_sub (pe_op op_pow pe_int pe_int) pe_int) (pa_cons (pe_op op_pow pe_int pe_int) pa_nil)))))))))) pa_nil)))) (Evl.pss_cut (ps_if (PW.pt (pw_and (pt_cmpR op_le (pv 4) pe_int (nomark _)) (pw_and1 (pt_not (pt_val (pe_callG (ok_near_right T) hg (hr.mono (by decide)) rfl T.m_near_right T.f_near_right.kp T.b_near_right pass0 (pa_cons (pv 4) pa_nil))))))) (pss_one (ps_ret pe_bl)) pss_nil) (pss_one (ps_if (PW.pt (pw_or (pt_not (pt_val (pe_callG (ok_far_right T) hg (hr.mono (by decide)) rfl T.m_far_right T.f_far_right.kp T.b_far_right pass0 (pa_cons (pv 1) (pa_cons (pv 4) pa_nil))))) (pw_or (pt_not (pt_val (pe_callG (ok_far_right T) hg (hr.mono (by decide)) rfl T.m_far_right T.f_far_right.kp T.b_far_right pass0 (pa_cons (pv 1) (pa_cons (pv 4) pa_nil))))) (pw_or1 (pt_not (pt_val (pe_call (ok_values_right T) (hr.mono (by decide)) rfl T.m_values_right T.f_values_right.kp T.b_values_right .nil pass0 (pa_cons (pv 1) (pa_cons (pv 4) pa_nil))))))))) (pss_one (ps_ret pe_bl)) pss_nil))))) (pss_cons (ps_set (i := 3) sc_law.nd rfl (Or.inl rfl) (pe_make T.mk_Day (ok_Day_init T) (hr.mono (by decide)) rfl T.m_Day T.b_Day_init .nil pass0 (pa_cons pe_int pa_nil))) (pss_one (ps_ret (pe_cmpR (op_eqD hr.units) (pe_lst (pa_cons (pe_op (op_refl T.re_Day_Mod F.fills_int_mod F.slot_int_mod lets_mod (ok_Day_rmod T) (hr.mono (by decide)) T.b_Day_rmod pass0) pe_int (pv 3)) (pa_cons (pe_op (op_refl T.re_Day_Mod F.fills_int_mod F.slot_int_mod lets_mod (ok_Day_rmod T) (hr.mono (by decide)) T.b_Day_rmod pass0) (pe_un un_neg pe_int) (pv 3)) (pa_cons (pe_op (op_refl T.re_Day_FloorDiv F.fills_int_floordiv F.slot_int_floordiv lets_fdiv (ok_Day_rfloordiv T) (hr.mono (by decide)) T.b_Day_rfloordiv pass0) (pe_un un_neg pe_int) (pv 3)) (pa_cons (pe_meth (pv 3) T.cl_Day T.me_Day_forward (ok_Day_forward T) (hr.mono (by decide)) T.b_Day_forward .nil pass0 (pa_cons pe_int (pa_cons pe_int pa_nil))) (pa_cons (pe_meth (pv 3) T.cl_Day T.me_Day_forward (ok_Day_forward T) (hr.mono (by decide)) T.b_Day_forward .nil pass0 (pa_cons pe_int (pa_cons pe_int pa_nil))) pa_nil)))))) (pe_lst (pa_cons pe_int (pa_cons pe_int (pa_cons (pe_un un_neg pe_int) (pa_cons pe_int (pa_cons pe_int pa_nil)))))) (nomark _))))))), ?_⟩
    repeat walk_at "s"
    refine ⟨a, ns, rfl, hS, hn, fun p H1 S1 np pen1 => ?_⟩
    repeat walk_at "s"
    refine ex_rng (n := 5) rfl (by decide) (fun i σ' H' => (∃ v1 v2 v3, σ' = [some (.ref a), some (.ref p), v1, v2, v3]) ∧ Pen p H' (500 - 100 * i)) ⟨⟨_, _, _, rfl⟩, pen1.le (by omega)⟩ ?_ ?_
    · rintro i σ' H2 hi ⟨⟨v1, v2, v3, rfl⟩, pen2⟩
      repeat walk_at "s"
      refine ⟨p, _, 500 - 100 * i - 1, rfl, by decide, by decide, pen2.le (by omega), fun d1 H3 G3 pen3 a1 b1 => ?_⟩
      repeat walk_at "s"
      refine ⟨lst_ok rfl, fun z hz => ?_⟩
      refine ⟨p, z, _, 500 - 100 * i - 2, rfl, pen3.at hz, by simp, by simp, (pen3.new hz).le (by omega), fun v H4 G4 pen4 hv => ?_⟩
      have hm : ∃ L : Int, v = .int L ∧ 1 ≤ L ∧ L ≤ 1000000000000 := by
        have e12 : (10 : Int) ^ Int.toNat 12 = 1000000000000 := by decide
        rw [e12] at hv
        simp only [List.mem_cons, List.not_mem_nil, or_false] at hv
        rcases hv with rfl | rfl | rfl | rfl | rfl | rfl | rfl | rfl | rfl
        all_goals exact ⟨_, rfl, by omega, by omega⟩
      obtain ⟨L, rfl, L0, L1⟩ := hm
      repeat walk_at "s"
      have hL : 1 ≤ L ∧ L ≤ 1000000000000 := ⟨L0, L1⟩
      refine t_cut (fun σ' H' => (∃ v1 v2, σ' = [some (.ref a), some (.ref p), v1, v2, some (.int L)]) ∧ Pen p H' (500 - 100 * i - 2)) ?_ ?_
      · repeat walk_at "s"
        refine ite_d (fun h60 => ?_) fun h60 => ?_
        · repeat walk_at "s"
          refine ⟨L, rfl, ⟨L0, h60⟩, fun H5 S5 => ?_⟩
          repeat walk_at "s"
          exact ⟨⟨_, _, rfl⟩, pen4.same S5⟩
        · repeat walk_at "s"
          exact ⟨⟨_, _, rfl⟩, pen4⟩
      · rintro σ' H5 ⟨⟨w1, w2, rfl⟩, pen5⟩
        repeat walk_at "s"
        refine ⟨p, L, 500 - 100 * i - 14, rfl, hL, pen5.le (by omega), fun H6 G6 pen6 => ?_⟩
        repeat walk_at "s"
        refine ⟨p, L, 500 - 100 * i - 26, rfl, hL, pen6.le (by omega), fun H7 G7 pen7 => ?_⟩
        repeat walk_at "s"
        refine ⟨p, L, 500 - 100 * i - 28, rfl, hL, pen7.le (by omega), fun H8 G8 pen8 => ?_⟩
        repeat walk_at "s"
        exact ⟨⟨_, _, _, rfl⟩, pen8.le (by omega)⟩
    · rintro σ' H2 ⟨⟨v1, v2, v3, rfl⟩, pen2⟩
      repeat walk_at "s"
      refine make_day (by decide) fun b H3 S3 nb db => ?_
      repeat walk_at "s"
      refine r_rmod db (by decide) ?_
      repeat walk_at "s"
      refine r_rmod db (by decide) ?_
      repeat walk_at "s"
      refine r_rfdiv db (by decide) ?_
      repeat walk_at "s"
      refine x_fwd db ?_
      repeat walk_at "s"
      refine s_fwd db (by decide) (by decide) fun H4 S4 => ?_
      have d4 := db.same S4
      repeat walk_at "s"
      refine x_fwd d4 ?_
      repeat walk_at "s"
      refine s_fwd d4 (by decide) (by decide) fun H5 S5 => ?_
      repeat walk_at "s"
      refine ⟨lst_ok rfl, fun z1 hz1 => ?_⟩
      repeat walk_at "s"
      refine ⟨lst_ok rfl, fun z2 hz2 => ?_⟩
      refine r_eqInts (ns := [30 % 24, -1 % 24, -1 / 24, (6 - 17) % 24, (6 - 6) % 24]) (ms := [6, 23, -1, 13, 0]) (.inl (.inl (Same.new hz2 _ _ upd_same))) (.inl (.inl upd_same)) ?_
      exact q _
end
theorem all_mk {P : Program} {w : World} {K : PySem.W.Frag} {h : Heap} {mg : Str → Option Value} {fa : Addr} (X : K.In h) (G : h.Ns mainGlobals mg) (hfa : mg "law" = some (.ref fa))
    {CDay fis_integer fis_between fis_moment fDay_init fDay_rmod fDay_rfloordiv fDay_forward fDay_contains fDay_eq fDay_str fpen fdraw fpick fnear_right fmoment ffar_right fvalues_right flaw : Addr} {od0 an0 od1 an1 od2 an2 od3 an3 od4 an4 od5 an5 od6 an6 od7 an7 od8 an8 od9 an9 od10 an10 od11 an11 od12 an12 od13 an13 od14 an14 od15 an15 od16 an16 od17 an17 : Option Addr} {sl0 sl1 sl2 sl3 sl4 sl5 sl6 sl7 sl8 sl9 sl10 sl11 sl12 sl13 sl14 sl15 sl16 sl17 : Array (Option Value)} {oc0 kV0 dc0 pm0 cd0 ct0 oc1 kV1 dc1 pm1 cd1 ct1 oc2 kV2 dc2 pm2 cd2 ct2 oc3 kV3 dc3 pm3 cd3 ct3 oc4 kV4 dc4 pm4 cd4 ct4 oc5 kV5 dc5 pm5 cd5 ct5 oc6 kV6 dc6 pm6 cd6 ct6 oc7 kV7 dc7 pm7 cd7 ct7 oc8 kV8 dc8 pm8 cd8 ct8 oc9 kV9 dc9 pm9 cd9 ct9 oc10 kV10 dc10 pm10 cd10 ct10 oc11 kV11 dc11 pm11 cd11 ct11 oc12 kV12 dc12 pm12 cd12 ct12 oc13 kV13 dc13 pm13 cd13 ct13 oc14 kV14 dc14 pm14 cd14 ct14 oc15 kV15 dc15 pm15 cd15 ct15 oc16 kV16 dc16 pm16 cd16 ct16 oc17 kV17 dc17 pm17 cd17 ct17 : Value}
    (aCDay : PySem.W.nsIn K mainGlobals "Day" = some (some (.ref CDay)))
    (afis_integer : PySem.W.nsIn K mainGlobals "is_integer" = some (some (.ref fis_integer)))
    (lfis_integer : K.lookup fis_integer = some ⟨oc0, od0, .func (PySem.W.fnOf "is_integer" "is_integer" (defArgs s_is_integer) (defBody s_is_integer) (defScope s_is_integer) .none kV0 dc0 pm0 an0 cd0 ct0), sl0⟩)
    (cfis_integer : PySem.W.codeIn K cd0 "is_integer" = true)
    (kfis_integer : PySem.W.keepIn K (.ref fis_integer) = true)
    (afis_between : PySem.W.nsIn K mainGlobals "is_between" = some (some (.ref fis_between)))
    (lfis_between : K.lookup fis_between = some ⟨oc1, od1, .func (PySem.W.fnOf "is_between" "is_between" (defArgs s_is_between) (defBody s_is_between) (defScope s_is_between) .none kV1 dc1 pm1 an1 cd1 ct1), sl1⟩)
    (cfis_between : PySem.W.codeIn K cd1 "is_between" = true)
    (kfis_between : PySem.W.keepIn K (.ref fis_between) = true)
    (afis_moment : PySem.W.nsIn K mainGlobals "is_moment" = some (some (.ref fis_moment)))
    (lfis_moment : K.lookup fis_moment = some ⟨oc2, od2, .func (PySem.W.fnOf "is_moment" "is_moment" (defArgs s_is_moment) (defBody s_is_moment) (defScope s_is_moment) .none kV2 dc2 pm2 an2 cd2 ct2), sl2⟩)
    (cfis_moment : PySem.W.codeIn K cd2 "is_moment" = true)
    (kfis_moment : PySem.W.keepIn K (.ref fis_moment) = true)
    (afDay_init : PySem.W.findIn K (.ref CDay) "__init__" = some (some (.ref fDay_init)))
    (ifDay_init : PySem.W.isFn K (.ref fDay_init) = true)
    (lfDay_init : K.lookup fDay_init = some ⟨oc3, od3, .func (PySem.W.fnOf "__init__" "Day.__init__" (defArgs s_Day_init) (defBody s_Day_init) (defScope s_Day_init) .none kV3 dc3 pm3 an3 cd3 ct3), sl3⟩)
    (cfDay_init : PySem.W.codeIn K cd3 "Day.__init__" = true)
    (kfDay_init : PySem.W.keepIn K (.ref fDay_init) = true)
    (afDay_rmod : PySem.W.findIn K (.ref CDay) "__rmod__" = some (some (.ref fDay_rmod)))
    (ifDay_rmod : PySem.W.isFn K (.ref fDay_rmod) = true)
    (lfDay_rmod : K.lookup fDay_rmod = some ⟨oc4, od4, .func (PySem.W.fnOf "__rmod__" "Day.__rmod__" (defArgs s_Day_rmod) (defBody s_Day_rmod) (defScope s_Day_rmod) .none kV4 dc4 pm4 an4 cd4 ct4), sl4⟩)
    (cfDay_rmod : PySem.W.codeIn K cd4 "Day.__rmod__" = true)
    (kfDay_rmod : PySem.W.keepIn K (.ref fDay_rmod) = true)
    (afDay_rfloordiv : PySem.W.findIn K (.ref CDay) "__rfloordiv__" = some (some (.ref fDay_rfloordiv)))
    (ifDay_rfloordiv : PySem.W.isFn K (.ref fDay_rfloordiv) = true)
    (lfDay_rfloordiv : K.lookup fDay_rfloordiv = some ⟨oc5, od5, .func (PySem.W.fnOf "__rfloordiv__" "Day.__rfloordiv__" (defArgs s_Day_rfloordiv) (defBody s_Day_rfloordiv) (defScope s_Day_rfloordiv) .none kV5 dc5 pm5 an5 cd5 ct5), sl5⟩)
    (cfDay_rfloordiv : PySem.W.codeIn K cd5 "Day.__rfloordiv__" = true)
    (kfDay_rfloordiv : PySem.W.keepIn K (.ref fDay_rfloordiv) = true)
    (afDay_forward : PySem.W.findIn K (.ref CDay) "forward" = some (some (.ref fDay_forward)))
    (ifDay_forward : PySem.W.isFn K (.ref fDay_forward) = true)
    (lfDay_forward : K.lookup fDay_forward = some ⟨oc6, od6, .func (PySem.W.fnOf "forward" "Day.forward" (defArgs s_Day_forward) (defBody s_Day_forward) (defScope s_Day_forward) .none kV6 dc6 pm6 an6 cd6 ct6), sl6⟩)
    (cfDay_forward : PySem.W.codeIn K cd6 "Day.forward" = true)
    (kfDay_forward : PySem.W.keepIn K (.ref fDay_forward) = true)
    (afDay_contains : PySem.W.findIn K (.ref CDay) "__contains__" = some (some (.ref fDay_contains)))
    (ifDay_contains : PySem.W.isFn K (.ref fDay_contains) = true)
    (lfDay_contains : K.lookup fDay_contains = some ⟨oc7, od7, .func (PySem.W.fnOf "__contains__" "Day.__contains__" (defArgs s_Day_contains) (defBody s_Day_contains) (defScope s_Day_contains) .none kV7 dc7 pm7 an7 cd7 ct7), sl7⟩)
    (cfDay_contains : PySem.W.codeIn K cd7 "Day.__contains__" = true)
    (kfDay_contains : PySem.W.keepIn K (.ref fDay_contains) = true)
    (afDay_eq : PySem.W.findIn K (.ref CDay) "__eq__" = some (some (.ref fDay_eq)))
    (ifDay_eq : PySem.W.isFn K (.ref fDay_eq) = true)
    (lfDay_eq : K.lookup fDay_eq = some ⟨oc8, od8, .func (PySem.W.fnOf "__eq__" "Day.__eq__" (defArgs s_Day_eq) (defBody s_Day_eq) (defScope s_Day_eq) .none kV8 dc8 pm8 an8 cd8 ct8), sl8⟩)
    (cfDay_eq : PySem.W.codeIn K cd8 "Day.__eq__" = true)
    (kfDay_eq : PySem.W.keepIn K (.ref fDay_eq) = true)
    (afDay_str : PySem.W.findIn K (.ref CDay) "__str__" = some (some (.ref fDay_str)))
    (ifDay_str : PySem.W.isFn K (.ref fDay_str) = true)
    (lfDay_str : K.lookup fDay_str = some ⟨oc9, od9, .func (PySem.W.fnOf "__str__" "Day.__str__" (defArgs s_Day_str) (defBody s_Day_str) (defScope s_Day_str) .none kV9 dc9 pm9 an9 cd9 ct9), sl9⟩)
    (cfDay_str : PySem.W.codeIn K cd9 "Day.__str__" = true)
    (kfDay_str : PySem.W.keepIn K (.ref fDay_str) = true)
    (afpen : PySem.W.nsIn K mainGlobals "_law_pen" = some (some (.ref fpen)))
    (lfpen : K.lookup fpen = some ⟨oc10, od10, .func (PySem.W.fnOf "_law_pen" "_law_pen" (defArgs s_pen) (defBody s_pen) (defScope s_pen) .none kV10 dc10 pm10 an10 cd10 ct10), sl10⟩)
    (cfpen : PySem.W.codeIn K cd10 "_law_pen" = true)
    (kfpen : PySem.W.keepIn K (.ref fpen) = true)
    (afdraw : PySem.W.nsIn K mainGlobals "_law_draw" = some (some (.ref fdraw)))
    (lfdraw : K.lookup fdraw = some ⟨oc11, od11, .func (PySem.W.fnOf "_law_draw" "_law_draw" (defArgs s_draw) (defBody s_draw) (defScope s_draw) .none kV11 dc11 pm11 an11 cd11 ct11), sl11⟩)
    (cfdraw : PySem.W.codeIn K cd11 "_law_draw" = true)
    (kfdraw : PySem.W.keepIn K (.ref fdraw) = true)
    (afpick : PySem.W.nsIn K mainGlobals "_law_pick" = some (some (.ref fpick)))
    (lfpick : K.lookup fpick = some ⟨oc12, od12, .func (PySem.W.fnOf "_law_pick" "_law_pick" (defArgs s_pick) (defBody s_pick) (defScope s_pick) .none kV12 dc12 pm12 an12 cd12 ct12), sl12⟩)
    (cfpick : PySem.W.codeIn K cd12 "_law_pick" = true)
    (kfpick : PySem.W.keepIn K (.ref fpick) = true)
    (afnear_right : PySem.W.nsIn K mainGlobals "_law_near_right" = some (some (.ref fnear_right)))
    (lfnear_right : K.lookup fnear_right = some ⟨oc13, od13, .func (PySem.W.fnOf "_law_near_right" "_law_near_right" (defArgs s_near_right) (defBody s_near_right) (defScope s_near_right) .none kV13 dc13 pm13 an13 cd13 ct13), sl13⟩)
    (cfnear_right : PySem.W.codeIn K cd13 "_law_near_right" = true)
    (kfnear_right : PySem.W.keepIn K (.ref fnear_right) = true)
    (afmoment : PySem.W.nsIn K mainGlobals "_law_moment" = some (some (.ref fmoment)))
    (lfmoment : K.lookup fmoment = some ⟨oc14, od14, .func (PySem.W.fnOf "_law_moment" "_law_moment" (defArgs s_moment) (defBody s_moment) (defScope s_moment) .none kV14 dc14 pm14 an14 cd14 ct14), sl14⟩)
    (cfmoment : PySem.W.codeIn K cd14 "_law_moment" = true)
    (kfmoment : PySem.W.keepIn K (.ref fmoment) = true)
    (affar_right : PySem.W.nsIn K mainGlobals "_law_far_right" = some (some (.ref ffar_right)))
    (lffar_right : K.lookup ffar_right = some ⟨oc15, od15, .func (PySem.W.fnOf "_law_far_right" "_law_far_right" (defArgs s_far_right) (defBody s_far_right) (defScope s_far_right) .none kV15 dc15 pm15 an15 cd15 ct15), sl15⟩)
    (cffar_right : PySem.W.codeIn K cd15 "_law_far_right" = true)
    (kffar_right : PySem.W.keepIn K (.ref ffar_right) = true)
    (afvalues_right : PySem.W.nsIn K mainGlobals "_law_values_right" = some (some (.ref fvalues_right)))
    (lfvalues_right : K.lookup fvalues_right = some ⟨oc16, od16, .func (PySem.W.fnOf "_law_values_right" "_law_values_right" (defArgs s_values_right) (defBody s_values_right) (defScope s_values_right) .none kV16 dc16 pm16 an16 cd16 ct16), sl16⟩)
    (cfvalues_right : PySem.W.codeIn K cd16 "_law_values_right" = true)
    (kfvalues_right : PySem.W.keepIn K (.ref fvalues_right) = true)
    (aflaw : PySem.W.nsIn K mainGlobals "law" = some (some (.ref flaw)))
    (lflaw : K.lookup flaw = some ⟨oc17, od17, .func (PySem.W.fnOf "law" "law" (defArgs s_law) (defBody s_law) (defScope s_law) .none kV17 dc17 pm17 an17 cd17 ct17), sl17⟩)
    (cflaw : PySem.W.codeIn K cd17 "law" = true)
    (kflaw : PySem.W.keepIn K (.ref flaw) = true)
    (pgCDay : PySem.W.plainGet K CDay Str.empty = true)
    (hdCDay : PySem.W.hasDictIn K CDay = true)
    (poCDay : PySem.W.plainOver K CDay = true)
    (saCDay : PySem.W.findIn K (.ref CDay) "__setattr__" = some (some (.builtin "object.__setattr__")))
    (mkCDay : PySem.W.makesIn K CDay = true)
    (kcCDay : PySem.W.keepIn K (.ref CDay) = true)
    (icCDay : PySem.W.findIn K (.ref CDay) "__class__" = some (some (.builtin "object.__class__")))
    (igCDay : PySem.W.specialIn K (.builtin "object.__class__") "__get__" = some (some (.builtin "getset_descriptor.__get__")))
    (itCDay : PySem.W.takesIn K (.builtin "object.__class__") = some true)
    (imCDay : PySem.W.mroIn K CDay (.type "object") = some true)
    (sfCDay : PySem.W.selfFirst K CDay = true)
    (naDaylength : PySem.W.findIn K (.ref CDay) "length" = some none)
    (reDayFloorDivo : PySem.W.findIn K (.ref CDay) (PySem.dunder "floordiv") = some none)
    (reDayFloorDivr : PySem.W.findIn K (.ref CDay) (PySem.dunderR "floordiv") = some (some (.ref fDay_rfloordiv)))
    (reDayFloorDivs : PySem.W.subIn K (.ref CDay) (.type "int") = some false)
    (reDayModo : PySem.W.findIn K (.ref CDay) (PySem.dunder "mod") = some none)
    (reDayModr : PySem.W.findIn K (.ref CDay) (PySem.dunderR "mod") = some (some (.ref fDay_rmod)))
    (reDayMods : PySem.W.subIn K (.ref CDay) (.type "int") = some false)
    (neDay : PySem.W.findIn K (.ref CDay) "__ne__" = some (some (.builtin "object.__ne__")))
    (cr1Day : PySem.W.readsIn K CDay (.type "type") = true)
    (cr2Day : PySem.W.specialIn K (.ref CDay) "__getattribute__" = some (some (.builtin "type.__getattribute__")))
    {tkcvDayMOST : Tok}
    (cvDayMOST : PySem.W.findCls K (.ref CDay) (.type "type") "MOST" = some (.val (.int 1000000000000 tkcvDayMOST)))
    {tkMOST_LENGTH : Tok}
    (gMOST_LENGTH : PySem.W.nsIn K mainGlobals "MOST_LENGTH" = some (some (.int 1000000000000 tkMOST_LENGTH)))
    (nabs : PySem.W.nsIn K mainGlobals "abs" = some none)
    (nbool : PySem.W.nsIn K mainGlobals "bool" = some none)
    (nint : PySem.W.nsIn K mainGlobals "int" = some none)
    (nisinstance : PySem.W.nsIn K mainGlobals "isinstance" = some none)
    (nlen : PySem.W.nsIn K mainGlobals "len" = some none)
    (nlist : PySem.W.nsIn K mainGlobals "list" = some none)
    (nrange : PySem.W.nsIn K mainGlobals "range" = some none)
    (nrepr : PySem.W.nsIn K mainGlobals "repr" = some none)
    (nstr : PySem.W.nsIn K mainGlobals "str" = some none)
    (xkd_int : PySem.W.kitOne K (.type "int") (.ref CDay) = some false)
    (xkd_str : PySem.W.kitOne K (.type "str") (.ref CDay) = some false)
    (xkd_non : PySem.W.kitOne K (.type "NoneType") (.ref CDay) = some false)
    (xkd_list : PySem.W.kitOne K (.type "list") (.ref CDay) = some false)
    (xkd_tuple : PySem.W.kitOne K (.type "tuple") (.ref CDay) = some false)
    (xsd_int : PySem.W.subIn K (.ref CDay) (.type "int") = some false)
    (xsd_str : PySem.W.subIn K (.ref CDay) (.type "str") = some false)
    (xsd_non : PySem.W.subIn K (.ref CDay) (.type "NoneType") = some false)
    (xsd_list : PySem.W.subIn K (.ref CDay) (.type "list") = some false)
    (xsd_tuple : PySem.W.subIn K (.ref CDay) (.type "tuple") = some false)
    (xdk_int : PySem.W.kitOne K (.ref CDay) (.type "int") = some false)
    : ∃ fd : FuncData, (∀ (s : Shared) (v : Value), BindsTo s fd ⟨[v], []⟩ [("_law_script", v)]) ∧ ∀ base : Heap, K.In base → base.Ns mainGlobals mg → FnG P w K mg base CX0 6 fa fd ["_law_script"] (spLaw K) := by
  have e := hfa.symm.trans (PySem.W.mg_of X G aflaw)
  cases e
  have T : Txt K mg ⟨CDay, fis_integer, fis_between, fis_moment, fDay_init, fDay_rmod, fDay_rfloordiv, fDay_forward, fDay_contains, fDay_eq, fDay_str, fpen, fdraw, fpick, fnear_right, fmoment, ffar_right, fvalues_right, fa⟩ ⟨PySem.W.fnOf "is_integer" "is_integer" (defArgs s_is_integer) (defBody s_is_integer) (defScope s_is_integer) .none kV0 dc0 pm0 an0 cd0 ct0, PySem.W.fnOf "is_between" "is_between" (defArgs s_is_between) (defBody s_is_between) (defScope s_is_between) .none kV1 dc1 pm1 an1 cd1 ct1, PySem.W.fnOf "is_moment" "is_moment" (defArgs s_is_moment) (defBody s_is_moment) (defScope s_is_moment) .none kV2 dc2 pm2 an2 cd2 ct2, PySem.W.fnOf "__init__" "Day.__init__" (defArgs s_Day_init) (defBody s_Day_init) (defScope s_Day_init) .none kV3 dc3 pm3 an3 cd3 ct3, PySem.W.fnOf "__rmod__" "Day.__rmod__" (defArgs s_Day_rmod) (defBody s_Day_rmod) (defScope s_Day_rmod) .none kV4 dc4 pm4 an4 cd4 ct4, PySem.W.fnOf "__rfloordiv__" "Day.__rfloordiv__" (defArgs s_Day_rfloordiv) (defBody s_Day_rfloordiv) (defScope s_Day_rfloordiv) .none kV5 dc5 pm5 an5 cd5 ct5, PySem.W.fnOf "forward" "Day.forward" (defArgs s_Day_forward) (defBody s_Day_forward) (defScope s_Day_forward) .none kV6 dc6 pm6 an6 cd6 ct6, PySem.W.fnOf "__contains__" "Day.__contains__" (defArgs s_Day_contains) (defBody s_Day_contains) (defScope s_Day_contains) .none kV7 dc7 pm7 an7 cd7 ct7, PySem.W.fnOf "__eq__" "Day.__eq__" (defArgs s_Day_eq) (defBody s_Day_eq) (defScope s_Day_eq) .none kV8 dc8 pm8 an8 cd8 ct8, PySem.W.fnOf "__str__" "Day.__str__" (defArgs s_Day_str) (defBody s_Day_str) (defScope s_Day_str) .none kV9 dc9 pm9 an9 cd9 ct9, PySem.W.fnOf "_law_pen" "_law_pen" (defArgs s_pen) (defBody s_pen) (defScope s_pen) .none kV10 dc10 pm10 an10 cd10 ct10, PySem.W.fnOf "_law_draw" "_law_draw" (defArgs s_draw) (defBody s_draw) (defScope s_draw) .none kV11 dc11 pm11 an11 cd11 ct11, PySem.W.fnOf "_law_pick" "_law_pick" (defArgs s_pick) (defBody s_pick) (defScope s_pick) .none kV12 dc12 pm12 an12 cd12 ct12, PySem.W.fnOf "_law_near_right" "_law_near_right" (defArgs s_near_right) (defBody s_near_right) (defScope s_near_right) .none kV13 dc13 pm13 an13 cd13 ct13, PySem.W.fnOf "_law_moment" "_law_moment" (defArgs s_moment) (defBody s_moment) (defScope s_moment) .none kV14 dc14 pm14 an14 cd14 ct14, PySem.W.fnOf "_law_far_right" "_law_far_right" (defArgs s_far_right) (defBody s_far_right) (defScope s_far_right) .none kV15 dc15 pm15 an15 cd15 ct15, PySem.W.fnOf "_law_values_right" "_law_values_right" (defArgs s_values_right) (defBody s_values_right) (defScope s_values_right) .none kV16 dc16 pm16 an16 cd16 ct16, PySem.W.fnOf "law" "law" (defArgs s_law) (defBody s_law) (defScope s_law) .none kV17 dc17 pm17 an17 cd17 ct17⟩ := {
    m_is_integer := PySem.W.mg_of X G afis_integer,
    f_is_integer := fun_mk (st := s_is_integer) lfis_integer cfis_integer kfis_integer,
    b_is_integer := (fun_mk (st := s_is_integer) lfis_integer cfis_integer kfis_integer).binds (ps := ["value"]) fun _ _ _ _ _ _ us hl => match us, hl with | [_], _ => rfl,
    m_is_between := PySem.W.mg_of X G afis_between,
    f_is_between := fun_mk (st := s_is_between) lfis_between cfis_between kfis_between,
    b_is_between := (fun_mk (st := s_is_between) lfis_between cfis_between kfis_between).binds (ps := ["value", "low", "high"]) fun _ _ _ _ _ _ us hl => match us, hl with | [_, _, _], _ => rfl,
    m_is_moment := PySem.W.mg_of X G afis_moment,
    f_is_moment := fun_mk (st := s_is_moment) lfis_moment cfis_moment kfis_moment,
    b_is_moment := (fun_mk (st := s_is_moment) lfis_moment cfis_moment kfis_moment).binds (ps := ["value"]) fun _ _ _ _ _ _ us hl => match us, hl with | [_], _ => rfl,
    f_Day_init := fun_mk (st := s_Day_init) lfDay_init cfDay_init kfDay_init,
    b_Day_init := (fun_mk (st := s_Day_init) lfDay_init cfDay_init kfDay_init).binds (ps := ["self", "length"]) fun _ _ _ _ _ _ us hl => match us, hl with | [_, _], _ => rfl,
    f_Day_rmod := fun_mk (st := s_Day_rmod) lfDay_rmod cfDay_rmod kfDay_rmod,
    b_Day_rmod := (fun_mk (st := s_Day_rmod) lfDay_rmod cfDay_rmod kfDay_rmod).binds (ps := ["self", "moment"]) fun _ _ _ _ _ _ us hl => match us, hl with | [_, _], _ => rfl,
    f_Day_rfloordiv := fun_mk (st := s_Day_rfloordiv) lfDay_rfloordiv cfDay_rfloordiv kfDay_rfloordiv,
    b_Day_rfloordiv := (fun_mk (st := s_Day_rfloordiv) lfDay_rfloordiv cfDay_rfloordiv kfDay_rfloordiv).binds (ps := ["self", "moment"]) fun _ _ _ _ _ _ us hl => match us, hl with | [_, _], _ => rfl,
    f_Day_forward := fun_mk (st := s_Day_forward) lfDay_forward cfDay_forward kfDay_forward,
    b_Day_forward := (fun_mk (st := s_Day_forward) lfDay_forward cfDay_forward kfDay_forward).binds (ps := ["self", "a", "b"]) fun _ _ _ _ _ _ us hl => match us, hl with | [_, _, _], _ => rfl,
    f_Day_contains := fun_mk (st := s_Day_contains) lfDay_contains cfDay_contains kfDay_contains,
    b_Day_contains := (fun_mk (st := s_Day_contains) lfDay_contains cfDay_contains kfDay_contains).binds (ps := ["self", "value"]) fun _ _ _ _ _ _ us hl => match us, hl with | [_, _], _ => rfl,
    f_Day_eq := fun_mk (st := s_Day_eq) lfDay_eq cfDay_eq kfDay_eq,
    b_Day_eq := (fun_mk (st := s_Day_eq) lfDay_eq cfDay_eq kfDay_eq).binds (ps := ["self", "other"]) fun _ _ _ _ _ _ us hl => match us, hl with | [_, _], _ => rfl,
    f_Day_str := fun_mk (st := s_Day_str) lfDay_str cfDay_str kfDay_str,
    b_Day_str := (fun_mk (st := s_Day_str) lfDay_str cfDay_str kfDay_str).binds (ps := ["self"]) fun _ _ _ _ _ _ us hl => match us, hl with | [_], _ => rfl,
    m_pen := PySem.W.mg_of X G afpen,
    f_pen := fun_mk (st := s_pen) lfpen cfpen kfpen,
    b_pen := (fun_mk (st := s_pen) lfpen cfpen kfpen).binds (ps := ["_law_script"]) fun _ _ _ _ _ _ us hl => match us, hl with | [_], _ => rfl,
    m_draw := PySem.W.mg_of X G afdraw,
    f_draw := fun_mk (st := s_draw) lfdraw cfdraw kfdraw,
    b_draw := (fun_mk (st := s_draw) lfdraw cfdraw kfdraw).binds (ps := ["_law_pen_here", "_law_many"]) fun _ _ _ _ _ _ us hl => match us, hl with | [_, _], _ => rfl,
    m_pick := PySem.W.mg_of X G afpick,
    f_pick := fun_mk (st := s_pick) lfpick cfpick kfpick,
    b_pick := (fun_mk (st := s_pick) lfpick cfpick kfpick).binds (ps := ["_law_pen_here", "_law_some"]) fun _ _ _ _ _ _ us hl => match us, hl with | [_, _], _ => rfl,
    m_near_right := PySem.W.mg_of X G afnear_right,
    f_near_right := fun_mk (st := s_near_right) lfnear_right cfnear_right kfnear_right,
    b_near_right := (fun_mk (st := s_near_right) lfnear_right cfnear_right kfnear_right).binds (ps := ["_law_size"]) fun _ _ _ _ _ _ us hl => match us, hl with | [_], _ => rfl,
    m_moment := PySem.W.mg_of X G afmoment,
    f_moment := fun_mk (st := s_moment) lfmoment cfmoment kfmoment,
    b_moment := (fun_mk (st := s_moment) lfmoment cfmoment kfmoment).binds (ps := ["_law_pen_here", "_law_size"]) fun _ _ _ _ _ _ us hl => match us, hl with | [_, _], _ => rfl,
    m_far_right := PySem.W.mg_of X G affar_right,
    f_far_right := fun_mk (st := s_far_right) lffar_right cffar_right kffar_right,
    b_far_right := (fun_mk (st := s_far_right) lffar_right cffar_right kffar_right).binds (ps := ["_law_pen_here", "_law_size"]) fun _ _ _ _ _ _ us hl => match us, hl with | [_, _], _ => rfl,
    m_values_right := PySem.W.mg_of X G afvalues_right,
    f_values_right := fun_mk (st := s_values_right) lfvalues_right cfvalues_right kfvalues_right,
    b_values_right := (fun_mk (st := s_values_right) lfvalues_right cfvalues_right kfvalues_right).binds (ps := ["_law_pen_here", "_law_size"]) fun _ _ _ _ _ _ us hl => match us, hl with | [_, _], _ => rfl,
    m_law := PySem.W.mg_of X G aflaw,
    f_law := fun_mk (st := s_law) lflaw cflaw kflaw,
    b_law := (fun_mk (st := s_law) lflaw cflaw kflaw).binds (ps := ["_law_script"]) fun _ _ _ _ _ _ us hl => match us, hl with | [_], _ => rfl,
    m_Day := PySem.W.mg_of X G aCDay,
    cl_Day := ⟨pgCDay, hdCDay, poCDay, saCDay⟩,
    mk_Day := ⟨mkCDay, afDay_init, ifDay_init, kcCDay⟩,
    na_Day_length := naDaylength,
    me_Day_rmod := ⟨afDay_rmod, ifDay_rmod, kfDay_rmod⟩,
    me_Day_rfloordiv := ⟨afDay_rfloordiv, ifDay_rfloordiv, kfDay_rfloordiv⟩,
    me_Day_forward := ⟨afDay_forward, ifDay_forward, kfDay_forward⟩,
    me_Day_contains := ⟨afDay_contains, ifDay_contains, kfDay_contains⟩,
    me_Day_eq := ⟨afDay_eq, ifDay_eq, kfDay_eq⟩,
    me_Day_str := ⟨afDay_str, ifDay_str, kfDay_str⟩,
    re_Day_FloorDiv := ⟨sfCDay, ⟨_, reDayFloorDivo, .inl rfl⟩, reDayFloorDivr, ifDay_rfloordiv, reDayFloorDivs⟩,
    re_Day_Mod := ⟨sfCDay, ⟨_, reDayModo, .inl rfl⟩, reDayModr, ifDay_rmod, reDayMods⟩,
    co_Day_Eq := ⟨afDay_eq, ifDay_eq⟩,
    ne_Day := ⟨afDay_eq, ifDay_eq, neDay, imCDay⟩,
    cr_Day := ⟨cr1Day, cr2Day⟩,
    cv_Day_MOST := ⟨_, cvDayMOST⟩,
    is_Day := ⟨⟨pgCDay, hdCDay, poCDay, saCDay⟩, icCDay, igCDay, itCDay, imCDay⟩,
    g_MOST_LENGTH := ⟨_, PySem.W.mg_of X G gMOST_LENGTH⟩,
    n_abs := PySem.W.mg_none_of X G nabs,
    n_bool := PySem.W.mg_none_of X G nbool,
    n_int := PySem.W.mg_none_of X G nint,
    n_isinstance := PySem.W.mg_none_of X G nisinstance,
    n_len := PySem.W.mg_none_of X G nlen,
    n_list := PySem.W.mg_none_of X G nlist,
    n_range := PySem.W.mg_none_of X G nrange,
    n_repr := PySem.W.mg_none_of X G nrepr,
    n_str := PySem.W.mg_none_of X G nstr,
    kd_int := xkd_int,
    kd_str := xkd_str,
    kd_non := xkd_non,
    kd_list := xkd_list,
    kd_tuple := xkd_tuple,
    sd_int := xsd_int,
    sd_str := xsd_str,
    sd_non := xsd_non,
    sd_list := xsd_list,
    sd_tuple := xsd_tuple,
    dk_int := xdk_int }
  exact ⟨PySem.W.fnOf "law" "law" (defArgs s_law) (defBody s_law) (defScope s_law) .none kV17 dc17 pm17 an17 cd17 ct17, fun s v => .of_eq rfl, fun base _ _ => ok_law T⟩
theorem walk {l : PySem.W.OpenLaw} {q : Program} {loose : List Str} {XP : (Str → Option Value) → Heap → Prop} {YP : World → Heap → Prop} {d : DefRec} {K : Params → PySem.W.Frag} (hn : l.most = some 63) (hdf : d.params.defaults = [])
    (hY : ∀ (w : World) (h : Heap), YP w h → (K w.params).In h)
    (F : ∀ (w : World) (mg : Str → Option Value) (fa : Addr) (h : Heap), (K w.params).In h → h.Ns mainGlobals mg → mg d.name = some (.ref fa) →
      ∃ fd : FuncData, (∀ (s : Shared) (u : Value), BindsTo s fd ⟨[u], []⟩ [("_law_script", u)]) ∧ ∀ base : Heap, (K w.params).In base → base.Ns mainGlobals mg → FnG l.prog w (K w.params) mg base CX0 6 fa fd ["_law_script"] (spLaw (K w.params))) :
    PySem.W.WalkO q loose XP YP l.row.toRowW d [] (fun f vs => PySem.call f vs) :=
  walk_ofG (n := 63) (k := 6) (x := "_law_script") (CX := fun _ => CX0) (sp := fun w => spLaw (K w.params)) hn (by decide) hdf ⟨rfl, by decide, by decide⟩ hY F (fun _ _ a ns hl _ hS => ⟨a, ns, rfl, hS, hl, fun _ => rfl⟩) fun _ _ _ _ _ z => z
end Ol
open PySem PySem.W PyProof.Rows in
set_option maxRecDepth 100000 in
set_option maxHeartbeats 0 in
theorem PySem.Challenge.cw_onelongturn_k02_moments_of_days_holds : PySem.Challenge.rw_onelongturn_k02_moments_of_days.Holds := by
  w_on; o_law; k_head; (case hw => w_witness2)
  k_fill
  refine Ol.walk (l := PySem.Challenge.rw_onelongturn_k02_moments_of_days) rfl rfl (fun w h Y => PySem.W.kIn_of Y) ?F
  case F =>
    intro w mg fa h KX G hmg
    refine' Ol.all_mk KX G hmg ?aCDay ?afis_integer ?lfis_integer ?cfis_integer ?kfis_integer ?afis_between ?lfis_between ?cfis_between ?kfis_between ?afis_moment ?lfis_moment ?cfis_moment ?kfis_moment ?afDay_init ?ifDay_init ?lfDay_init ?cfDay_init ?kfDay_init ?afDay_rmod ?ifDay_rmod ?lfDay_rmod ?cfDay_rmod ?kfDay_rmod ?afDay_rfloordiv ?ifDay_rfloordiv ?lfDay_rfloordiv ?cfDay_rfloordiv ?kfDay_rfloordiv ?afDay_forward ?ifDay_forward ?lfDay_forward ?cfDay_forward ?kfDay_forward ?afDay_contains ?ifDay_contains ?lfDay_contains ?cfDay_contains ?kfDay_contains ?afDay_eq ?ifDay_eq ?lfDay_eq ?cfDay_eq ?kfDay_eq ?afDay_str ?ifDay_str ?lfDay_str ?cfDay_str ?kfDay_str ?afpen ?lfpen ?cfpen ?kfpen ?afdraw ?lfdraw ?cfdraw ?kfdraw ?afpick ?lfpick ?cfpick ?kfpick ?afnear_right ?lfnear_right ?cfnear_right ?kfnear_right ?afmoment ?lfmoment ?cfmoment ?kfmoment ?affar_right ?lffar_right ?cffar_right ?kffar_right ?afvalues_right ?lfvalues_right ?cfvalues_right ?kfvalues_right ?aflaw ?lflaw ?cflaw ?kflaw ?pgCDay ?hdCDay ?poCDay ?saCDay ?mkCDay ?kcCDay ?icCDay ?igCDay ?itCDay ?imCDay ?sfCDay ?naDaylength ?reDayFloorDivo ?reDayFloorDivr ?reDayFloorDivs ?reDayModo ?reDayModr ?reDayMods ?neDay ?cr1Day ?cr2Day ?cvDayMOST ?gMOST_LENGTH ?nabs ?nbool ?nint ?nisinstance ?nlen ?nlist ?nrange ?nrepr ?nstr ?xkd_int ?xkd_str ?xkd_non ?xkd_list ?xkd_tuple ?xsd_int ?xsd_str ?xsd_non ?xsd_list ?xsd_tuple ?xdk_int
    (case aCDay => k_is)
    (case afis_integer => k_is)
    (case lfis_integer => k_is)
    (case cfis_integer => k_is)
    (case kfis_integer => k_is)
    (case afis_between => k_is)
    (case lfis_between => k_is)
    (case cfis_between => k_is)
    (case kfis_between => k_is)
    (case afis_moment => k_is)
    (case lfis_moment => k_is)
    (case cfis_moment => k_is)
    (case kfis_moment => k_is)
    (case afDay_init => k_is)
    (case ifDay_init => k_is)
    (case lfDay_init => k_is)
    (case cfDay_init => k_is)
    (case kfDay_init => k_is)
    (case afDay_rmod => k_is)
    (case ifDay_rmod => k_is)
    (case lfDay_rmod => k_is)
    (case cfDay_rmod => k_is)
    (case kfDay_rmod => k_is)
    (case afDay_rfloordiv => k_is)
    (case ifDay_rfloordiv => k_is)
    (case lfDay_rfloordiv => k_is)
    (case cfDay_rfloordiv => k_is)
    (case kfDay_rfloordiv => k_is)
    (case afDay_forward => k_is)
    (case ifDay_forward => k_is)
    (case lfDay_forward => k_is)
    (case cfDay_forward => k_is)
    (case kfDay_forward => k_is)
    (case afDay_contains => k_is)
    (case ifDay_contains => k_is)
    (case lfDay_contains => k_is)
    (case cfDay_contains => k_is)
    (case kfDay_contains => k_is)
    (case afDay_eq => k_is)
    (case ifDay_eq => k_is)
    (case lfDay_eq => k_is)
    (case cfDay_eq => k_is)
    (case kfDay_eq => k_is)
    (case afDay_str => k_is)
    (case ifDay_str => k_is)
    (case lfDay_str => k_is)
    (case cfDay_str => k_is)
    (case kfDay_str => k_is)
    (case afpen => k_is)
    (case lfpen => k_is)
    (case cfpen => k_is)
    (case kfpen => k_is)
    (case afdraw => k_is)
    (case lfdraw => k_is)
    (case cfdraw => k_is)
    (case kfdraw => k_is)
    (case afpick => k_is)
    (case lfpick => k_is)
    (case cfpick => k_is)
    (case kfpick => k_is)
    (case afnear_right => k_is)
    (case lfnear_right => k_is)
    (case cfnear_right => k_is)
    (case kfnear_right => k_is)
    (case afmoment => k_is)
    (case lfmoment => k_is)
    (case cfmoment => k_is)
    (case kfmoment => k_is)
    (case affar_right => k_is)
    (case lffar_right => k_is)
    (case cffar_right => k_is)
    (case kffar_right => k_is)
    (case afvalues_right => k_is)
    (case lfvalues_right => k_is)
    (case cfvalues_right => k_is)
    (case kfvalues_right => k_is)
    (case aflaw => k_is)
    (case lflaw => k_is)
    (case cflaw => k_is)
    (case kflaw => k_is)
    (case pgCDay => k_is)
    (case hdCDay => k_is)
    (case poCDay => k_is)
    (case saCDay => k_is)
    (case mkCDay => k_is)
    (case kcCDay => k_is)
    (case icCDay => k_is)
    (case igCDay => k_is)
    (case itCDay => k_is)
    (case imCDay => k_is)
    (case sfCDay => k_is)
    (case naDaylength => k_is)
    (case reDayFloorDivo => k_is)
    (case reDayFloorDivr => k_is)
    (case reDayFloorDivs => k_is)
    (case reDayModo => k_is)
    (case reDayModr => k_is)
    (case reDayMods => k_is)
    (case neDay => k_is)
    (case cr1Day => k_is)
    (case cr2Day => k_is)
    (case cvDayMOST => k_is)
    (case gMOST_LENGTH => k_is)
    (case nabs => k_is)
    (case nbool => k_is)
    (case nint => k_is)
    (case nisinstance => k_is)
    (case nlen => k_is)
    (case nlist => k_is)
    (case nrange => k_is)
    (case nrepr => k_is)
    (case nstr => k_is)
    (case xkd_int => kit_is)
    (case xkd_str => kit_is)
    (case xkd_non => kit_is)
    (case xkd_list => kit_is)
    (case xkd_tuple => kit_is)
    (case xsd_int => k_is)
    (case xsd_str => k_is)
    (case xsd_non => k_is)
    (case xsd_list => k_is)
    (case xsd_tuple => k_is)
    (case xdk_int => kit_is)
#print axioms PySem.Challenge.cw_onelongturn_k02_moments_of_days_holds


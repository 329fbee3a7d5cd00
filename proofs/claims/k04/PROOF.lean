import PyProof.Rows.All
import Wide.All
import OpenK.AllK
import Wide.FinOn
import HandS.ForMost
import HandS.Wide
import KE.KOpsOwn
import HandS.IsInst
import HandS.Style
import HandS.Flow
import HandS.TupLe
import HandS.Evl
import PySem.Challenge.RW_onelongturn_k04_whole_days_that_come_rou
set_option Elab.async false
set_option linter.all false
set_option maxRecDepth 100000
set_option maxHeartbeats 4000000
namespace Ol
open PySem PySem.W PySem.Calls PyProof.Rows L2
section
variable {prog : Program} {w : World} {M : Model} {A : Around} {E : Value → Shared → Prop} {s : Shared} {K : Frag} {x C L f : Addr} {ox : Obj} {od : Option Obj} {nm T : String}

/-- an int's own method lets an instance be -/
def Lets (id : String) : Prop := ∀ (prog : Program) (w : World) (A : Around) (E : Value → Shared → Prop) (s : Shared) (x C dx : Addr) (i : Int) (t : Tok) (Q : Value → Shared → Prop),
  s.heap.get? x = some (instObj C dx) → Q .notImplemented s → wpAny (model prog w) A (call (.builtin id) [.int i t, .ref x]) Q E s
theorem lets_mod : Lets "int.__mod__" := by
  intro prog w A E s x C dx i t Q hx h
  refine wpAny_call_entry F.slot_int_mod (typeIs_int s i t) F.entry_int_mod ?_ (F.args_int_mod_2 _ _)
  obtain ⟨hp, g, d, tk, os⟩ := s
  unfold Builtin.«int.__mod__»
  wp_walk
  exact ⟨_, rfl, h⟩
theorem lets_fdiv : Lets "int.__floordiv__" := by
  intro prog w A E s x C dx i t Q hx h
  refine wpAny_call_entry F.slot_int_floordiv (typeIs_int s i t) F.entry_int_floordiv ?_ (F.args_int_floordiv_2 _ _)
  obtain ⟨hp, g, d, tk, os⟩ := s
  unfold Builtin.«int.__floordiv__»
  wp_walk
  exact ⟨_, rfl, h⟩
theorem lets_mul : Lets "int.__mul__" := by
  intro prog w A E s x C dx i t Q hx h
  refine wpAny_call_entry F.slot_int_mul (typeIs_int s i t) F.entry_int_mul ?_ (F.args_int_mul_2 _ _)
  obtain ⟨hp, g, d, tk, os⟩ := s
  unfold Builtin.«int.__mul__»
  wp_walk
  exact ⟨_, rfl, h⟩
theorem lets_add : Lets "int.__add__" := by
  intro prog w A E s x C dx i t Q hx h
  refine wpAny_call_entry F.slot_int_add (typeIs_int s i t) F.entry_int_add ?_ (F.args_int_add_2 _ _)
  obtain ⟨hp, g, d, tk, os⟩ := s
  unfold Builtin.«int.__add__»
  wp_walk
  exact ⟨_, rfl, h⟩

theorem fills_R {h : Heap} {cd : ClassData} {rest : List Value} {fo : Option Value} (X : K.In h) (hc : clsIn K C = some cd) (hm : cd.mro = .ref C :: rest)
    (hs : findIn K (.ref C) (PySem.dunder nm) = some fo) (hp : fo = none ∨ ∃ g : Addr, fo = some (.ref g)) (hr : findIn K (.ref C) (dunderR nm) = some (some (.ref f))) : Looks M h (fillsNumberSlot (.ref C) nm) true := by
  rcases hp with rfl | ⟨g, rfl⟩
  · intro A Q E s k q
    unfold fillsNumberSlot
    refine wpAny_bind ((looks_clsIn X hc).andThen (f := fun cd => pure cd.mro) .now A _ E s k ?_)
    rw [hm, List.anyM_cons]
    refine wpAny_bind ?_
    show wpAny M A (List.anyM _ [PySem.dunder nm, dunderR nm]) _ _ _
    rw [List.anyM_cons]
    refine wpAny_bind (wpAny_bind (looks_findIn X hs A _ E s k ?_))
    dsimp only
    refine wpAny_pure ?_
    rw [if_neg (show ¬ (false = true) from Bool.false_ne_true), List.anyM_cons]
    refine wpAny_bind (wpAny_bind (looks_findIn X hr A _ E s k ?_))
    dsimp only
    rw [if_pos (show (!ownNameWrapper (.ref f) (PySem.dunderR nm)) = true from rfl)]
    refine wpAny_pure ?_
    rw [if_pos rfl]
    refine wpAny_pure ?_
    rw [if_pos rfl]
    exact wpAny_pure q
  · exact fills_K X hc hm hs

theorem refl_int {op : Operator} {i : Int} {t : Tok} {id : String} {dx : Addr} {fo : Option Value} {Q : Value → Shared → Prop} (X : K.In s.heap) (I : InstAt s.heap x ox C od) (hx : s.heap.get? x = some (instObj C dx)) (hc : selfFirst K C = true)
    (fl : fillsNumberSlot (.type "int") op.info.2 = pure true) (sl : Slot "int" (PySem.dunder op.info.2) id) (lt : Lets id)
    (hs : findIn K (.ref C) (PySem.dunder op.info.2) = some fo) (hp : fo = none ∨ ∃ g : Addr, fo = some (.ref g)) (hr : findIn K (.ref C) (dunderR op.info.2) = some (some (.ref f))) (hf : isFn K (.ref f) = true) (hsub : subIn K (.ref C) (.type "int") = some false)
    (h : wpAny (model prog w) A (call (.ref f) [.ref x, .int i t]) (W.CmpBack Q) E s) : wpAny (model prog w) A (binaryOp op (.int i t) (.ref x)) Q E s := by
  obtain ⟨cd, rest, hcd, hm⟩ := ksp_first hc
  rcases hi : op.info with ⟨sym, nm'⟩
  rw [hi] at hs hr fl sl
  dsimp only at hs hr fl sl
  have one := ksp_try X I hr hf h
  have two : ∀ Q' : Option Value → Shared → Prop, Q' none s → wpAny (model prog w) A (tryMethod (.int i t) (PySem.dunder nm') (.ref x)) Q' E s := fun Q' q =>
    wpAny_tryMethod_declines (typeIs_int s i t) sl (lt _ _ _ _ _ _ _ _ _ _ _ hx ⟨rfl, q⟩)
  obtain ⟨hh, g, d, tt, os⟩ := s
  have L1 : Looks (model prog w) hh (typeOf (.int i t)) (.type "int") := Looks.of_pure rfl
  have L2 : Looks (model prog w) hh (typeOf (.ref x)) (.ref C) := I.type
  have L3 : Looks (model prog w) hh (fillsNumberSlot (.type "int") nm') true := Looks.of_pure fl
  have L4 : Looks (model prog w) hh (fillsNumberSlot (.ref C) nm') true := fills_R X hcd hm hs hp hr
  have L5 : Looks (model prog w) hh (isSubtype (.ref C) (.type "int")) false := looks_subIn X hsub
  have L7 : Looks (model prog w) hh (numberSlotInPython (.type "int") nm') false := Looks.of_pure rfl
  have hne : (Value.type "int" == Value.ref C) = false := Bool.eq_false_iff.mpr fun q => by cases beq_iff_eq.mp q
  simp only [binaryOp, hi]
  refine wpAny_holding (wpAny_bind ?_)
  unfold binaryOp1
  refine wpAny_bind (L1.at (wpAny_bind (L2.at (wpAny_bind (L3.at ?_)))))
  simp only [hne, Bool.false_eq_true, if_false]
  ksp_lk
  refine two _ ?_
  ksp_lk
  refine wpAny_mono one (fun r s' hr' => ?_) fun _ _ e => e
  obtain ⟨v, rfl, hq⟩ := hr'
  ksp_lk
  exact hq
end
end Ol

namespace Ol
open PySem PySem.W PySem.Calls PyProof.Rows L2
section
variable {X : Cx} {CX : CXT} {k : Nat} {C f : Addr} {fd : FuncData} {ps : List Str} {sp : Sp} {E : XK} {pins : List (Addr × Obj)} {σ : L2.St} {H : Hp} {s : Shared}

/-- what the type of a value is looked up as -/
theorem looks_ty {x : V} {u t : Value} (I : Inv X pins σ H s) (rx : RelV x u) (ty : TyX X.K H x t) : Looks (model X.prog X.w) s.heap (typeOf u) t := by
  cases ty with
  | base b =>
    cases b with
    | non => cases (show u = Value.none from rx); exact Looks.of_pure rfl
    | bl y => cases (show u = Value.bool y from rx); exact Looks.of_pure rfl
    | int i => obtain ⟨t, q⟩ := (show ∃ t, u = Value.int i t from rx); cases q; exact Looks.of_pure rfl
    | str y => obtain ⟨t, q⟩ := (show ∃ t, u = Value.str y t from rx); cases q; exact Looks.of_pure rfl
    | flt y => obtain ⟨t, q⟩ := (show ∃ t, u = Value.float y t from rx); cases q; exact Looks.of_pure rfl
    | @lst a xs ea =>
      cases (show u = Value.ref a from rx)
      obtain ⟨_, _, n, _, h1⟩ := (show ObjOk X.prog X.w H s.heap a (.lst xs) from I.hok a _ ea)
      exact (Looks.ld h1).andThen .now
    | @frz a ob xs ea =>
      cases (show u = Value.ref a from rx)
      obtain ⟨_, _, _, n, _, h1⟩ := (show ObjOk X.prog X.w H s.heap a (.frz ob (.lst xs)) from I.hok a _ ea)
      exact (Looks.ld h1).andThen .now
    | @tup a xs ea =>
      cases (show u = Value.ref a from rx)
      obtain ⟨_, _, _, o, h1, h2, _⟩ := (show ObjOk X.prog X.w H s.heap a (.tup xs) from I.hok a _ ea)
      exact h2 ▸ (Looks.ld h1).andThen .now
    | @dK a kvs ea =>
      cases (show u = Value.ref a from rx)
      obtain ⟨_, _, vs, _, o, es, ep, h1, h2, _⟩ := (show ObjOk X.prog X.w H s.heap a (.dK kvs) from I.hok a _ ea)
      exact h2.1 ▸ (Looks.ld h1).andThen .now
    | @dT a kvs ea =>
      cases (show u = Value.ref a from rx)
      obtain ⟨_, _, xs, _, o, es, ep, h1, h2, _⟩ := (show ObjOk X.prog X.w H s.heap a (.dT kvs) from I.hok a _ ea)
      exact h2.1 ▸ (Looks.ld h1).andThen .now
    | @ins a C dx fs ea cl ha hn htk hm =>
      cases (show u = Value.ref a from rx)
      obtain ⟨mA, O, _⟩ := ins_get I.hok ea
      obtain ⟨od, J, _⟩ := O.look
      exact J.type
  | byt y => obtain ⟨t, q⟩ := (show ∃ t, u = Value.bytes y t from rx); cases q; exact Looks.of_pure rfl
  | @set a S n ea =>
    cases (show u = Value.ref a from rx)
    obtain ⟨o, _, _, _, e, ex, _⟩ := (show ObjOk X.prog X.w H s.heap a (.set S n) from I.hok a _ ea)
    exact ex.1 ▸ (Looks.ld e).andThen .now
  | @kList a o e c =>
    cases (show u = Value.ref a from rx)
    exact c ▸ (Looks.ld (I.kIn a o e)).andThen .now
  | @kTuple a o e c =>
    cases (show u = Value.ref a from rx)
    exact c ▸ (Looks.ld (I.kIn a o e)).andThen .now
  | @kDict a o e c =>
    cases (show u = Value.ref a from rx)
    exact c ▸ (Looks.ld (I.kIn a o e)).andThen .now
  | @fTuple a ob xs ea =>
    cases (show u = Value.ref a from rx)
    obtain ⟨_, _, _, _, o, h1, h2, _⟩ := (show ObjOk X.prog X.w H s.heap a (.frz ob (.tup xs)) from I.hok a _ ea)
    exact h2 ▸ (Looks.ld h1).andThen .now
  | @fDict a ob kvs ea =>
    cases (show u = Value.ref a from rx)
    obtain ⟨_, _, _, vs, _, o, es, ep, h1, h2, _⟩ := (show ObjOk X.prog X.w H s.heap a (.frz ob (.dK kvs)) from I.hok a _ ea)
    exact h2.1 ▸ (Looks.ld h1).andThen .now

theorem back_ep {Q : VK} {u : Value} {s' : Shared} (h : EP X pins σ Q u s') : W.CmpBack (EP X pins σ Q) u s' := by
  obtain ⟨v, H', I', r, q⟩ := id h
  cases v with
  | non => cases (show u = Value.none from r); exact h
  | bl b => cases (show u = Value.bool b from r); exact h
  | int i => obtain ⟨t, e⟩ := (show ∃ t, u = Value.int i t from r); cases e; exact h
  | str i => obtain ⟨t, e⟩ := (show ∃ t, u = Value.str i t from r); cases e; exact h
  | byt i => obtain ⟨t, e⟩ := (show ∃ t, u = Value.bytes i t from r); cases e; exact h
  | flt i => obtain ⟨t, e⟩ := (show ∃ t, u = Value.float i t from r); cases e; exact h
  | ref a => cases (show u = Value.ref a from r); exact h
  | ty n => cases (show u = Value.type n from r); exact h

/-! ### own operators -/
/-- a op b, a an int, b an instance with the reflected method f -/
def rRefl (C : Addr) (sp : Sp) (E : XK) : R2 := fun x y H Q => ∃ i a dx fs, x = .int i ∧ y = .ref a ∧ H a = some (.ins C dx fs) ∧ sp [.ref a, .int i] H Q E
structure ReflOf (K : Frag) (C : Addr) (op : Operator) (f : Addr) : Prop where
  first : selfFirst K C = true
  own : ∃ fo : Option Value, findIn K (.ref C) (PySem.dunder op.info.2) = some fo ∧ (fo = none ∨ ∃ g : Addr, fo = some (.ref g))
  at_ : findIn K (.ref C) (dunderR op.info.2) = some (some (.ref f))
  fn : isFn K (.ref f) = true
  sub : subIn K (.ref C) (.type "int") = some false
theorem op_refl {op : Operator} {id : String} (R : ReflOf X.K C op f) (fl : fillsNumberSlot (.type "int") op.info.2 = pure true) (sl : Slot "int" (PySem.dunder op.info.2) id) (lt : Lets id)
    (F : FnOk X.prog X.w X.K X.mg X.base CX k f fd ps sp) (hr : Room k X.A) (hb : Binds X.K fd ps []) (hx : Passes CX X E) : OpR X (binaryOp op) (rRefl C sp E) := by
  intro pins s σ H x y v u Q I rx ry h
  obtain ⟨i, a, dx, fs, rfl, rfl, ea, q⟩ := h
  obtain ⟨t, rfl⟩ := rx
  cases (show u = Value.ref a from ry)
  obtain ⟨mA, O, _⟩ := ins_get I.hok ea
  obtain ⟨od, J, _⟩ := O.look
  obtain ⟨fo, h1, h2⟩ := R.own
  refine refl_int I.kIn J O.obj R.first fl sl lt h1 h2 R.at_ R.fn R.sub ?_
  exact wpAny_mono (run_fn (us := [.ref a, .int i t]) (vs := [.ref a, .int i]) F hr hb .nil hx I (.cons rfl (.cons ⟨t, rfl⟩ .nil)) q) (fun _ _ z => back_ep z) fun _ _ z => z
/-- a op b, a an instance with the method f, b of a built-in type T -/
def rOwnL (K : Frag) (C : Addr) (T : String) (sp : Sp) (E : XK) : R2 := fun x y H Q => ∃ a dx fs, x = .ref a ∧ H a = some (.ins C dx fs) ∧ TyX K H y (.type T) ∧ sp [.ref a, y] H Q E
structure OwnOf (K : Frag) (C : Addr) (op : Operator) (T : String) (f : Addr) : Prop where
  first : selfFirst K C = true
  at_ : findIn K (.ref C) (PySem.dunder op.info.2) = some (some (.ref f))
  fn : isFn K (.ref f) = true
  refl : ∃ rc : Option Value, findIn K (.ref C) (dunderR op.info.2) = some rc ∧ (rc = none ∨ ∃ g : Addr, rc = some (.ref g))
  t1 : ∃ fo, findIn K (.type T) (PySem.dunder op.info.2) = some fo
  t2 : ∃ ro, findIn K (.type T) (dunderR op.info.2) = some ro
  sub : subIn K (.type T) (.ref C) = some false

theorem own_left {op : Operator} {b : Value} {T : String} {x : Addr} {ox : Obj} {od : Option Obj} {K : Frag} {prog : Program} {w : World} {A : Around} {Er : Value → Shared → Prop} {fo ro rc : Option Value} {Q : Value → Shared → Prop} (X : K.In s.heap) (I : InstAt s.heap x ox C od)
    (hb : Looks (model prog w) s.heap (typeOf b) (.type T)) (hc : selfFirst K C = true)
    (hs : findIn K (.ref C) (PySem.dunder op.info.2) = some (some (.ref f))) (hf : isFn K (.ref f) = true) (hr : findIn K (.ref C) (dunderR op.info.2) = some rc) (hp : rc = none ∨ ∃ g : Addr, rc = some (.ref g))
    (h1 : findIn K (.type T) (PySem.dunder op.info.2) = some fo) (h2 : findIn K (.type T) (dunderR op.info.2) = some ro) (hsub : subIn K (.type T) (.ref C) = some false)
    (h : wpAny (model prog w) A (call (.ref f) [.ref x, b]) (W.CmpBack Q) Er s) : wpAny (model prog w) A (binaryOp op (.ref x) b) Q Er s := by
  obtain ⟨cd, rest, hcd, hm⟩ := ksp_first hc
  rcases hi : op.info with ⟨sym, nm'⟩
  rw [hi] at hs hr h1 h2
  dsimp only at hs hr h1 h2
  have one := ksp_try X I hs hf h
  obtain ⟨hh, g, d, tt, os⟩ := s
  have L1 : Looks (model prog w) hh (typeOf (.ref x)) (.ref C) := I.type
  have L2 : Looks (model prog w) hh (typeOf b) (.type T) := hb
  have L3 : Looks (model prog w) hh (fillsNumberSlot (.ref C) nm') true := fills_K X hcd hm hs
  have L4 : Looks (model prog w) hh (fillsNumberSlot (.type T) nm') ((fo.isSome && !isSeqSlot fo) || (ro.isSome && !isSeqSlot ro)) := ksp_fillsT X h1 h2
  have L5 : Looks (model prog w) hh (isSubtype (.type T) (.ref C)) false := looks_subIn X hsub
  have L6 : Looks (model prog w) hh (numberSlotInPython (.ref C) nm') true := ksp_inPy X hs hr hp
  have L7 : Looks (model prog w) hh (numberSlotInPython (.type T) nm') false := Looks.of_pure rfl
  have L8 : Looks (model prog w) hh (typeLookup (.type T) (dunderR nm')) ro := looks_findIn X h2
  generalize ((fo.isSome && !isSeqSlot fo) || (ro.isSome && !isSeqSlot ro)) = right at L4
  have hne : (Value.ref C == Value.type T) = false := Bool.eq_false_iff.mpr fun q => by cases beq_iff_eq.mp q
  simp only [binaryOp, hi]
  refine wpAny_holding (wpAny_bind ?_)
  unfold binaryOp1
  refine wpAny_bind (L1.at (wpAny_bind (L2.at (wpAny_bind (L3.at ?_)))))
  simp only [hne, Bool.false_eq_true, if_false]
  cases right with
  | false =>
    ksp_lk
    refine wpAny_mono one (fun r s' hr' => ?_) fun _ _ e => e
    obtain ⟨v, rfl, hq⟩ := hr'
    ksp_lk
    exact hq
  | true =>
    ksp_lk
    refine wpAny_mono one (fun r s' hr' => ?_) fun _ _ e => e
    obtain ⟨v, rfl, hq⟩ := hr'
    ksp_lk
    exact hq
theorem op_ownL {op : Operator} {T : String} (R : OwnOf X.K C op T f) (F : FnOk X.prog X.w X.K X.mg X.base CX k f fd ps sp) (hr : Room k X.A) (hb : Binds X.K fd ps []) (hx : Passes CX X E) : OpR X (binaryOp op) (rOwnL X.K C T sp E) := by
  intro pins s σ H x y v u Q I rx ry h
  obtain ⟨a, dx, fs, rfl, ea, ty, q⟩ := h
  cases (show v = Value.ref a from rx)
  obtain ⟨mA, O, _⟩ := ins_get I.hok ea
  obtain ⟨od, J, _⟩ := O.look
  obtain ⟨rc, h1, h2⟩ := R.refl
  obtain ⟨fo, h3⟩ := R.t1
  obtain ⟨ro, h4⟩ := R.t2
  refine own_left I.kIn J (looks_ty I ry ty) R.first R.at_ R.fn h1 h2 h3 h4 R.sub ?_
  exact wpAny_mono (run_fn (us := [.ref a, u]) (vs := [.ref a, y]) F hr hb .nil hx I (.cons rfl (.cons ry .nil)) q) (fun _ _ z => back_ep z) fun _ _ z => z

/-- a == b and its like, a an instance with the method f -/
def rCmpO (K : Frag) (C : Addr) (sp : Sp) (E : XK) : R2 := fun x y H Q => ∃ a dx fs t, x = .ref a ∧ H a = some (.ins C dx fs) ∧ TyX K H y t ∧ notFirst K C t = true ∧ sp [.ref a, y] H Q E
structure CmpOf (K : Frag) (C : Addr) (op : CmpOp) (f : Addr) : Prop where
  at_ : findIn K (.ref C) (cmpInfo op).2.1 = some (some (.ref f))
  fn : isFn K (.ref f) = true
theorem op_cmpO {op : CmpOp} (hop : ∀ a b, compareOp op a b = richCompare op a b) (R : CmpOf X.K C op f) (F : FnOk X.prog X.w X.K X.mg X.base CX k f fd ps sp) (hr : Room k X.A) (hb : Binds X.K fd ps []) (hx : Passes CX X E) : OpR X (compareOp op) (rCmpO X.K C sp E) := by
  intro pins s σ H x y v u Q I rx ry h
  obtain ⟨a, dx, fs, t, rfl, ea, ty, nf, q⟩ := h
  cases (show v = Value.ref a from rx)
  obtain ⟨mA, O, _⟩ := ins_get I.hok ea
  obtain ⟨od, J, _⟩ := O.look
  obtain ⟨m, Fm⟩ := I.fr
  rw [hop]
  refine cmp_K hr.units0 Fm I.mod.kin J (looks_ty I ry ty) nf R.at_ R.fn ?_
  exact wpAny_mono (run_fn (us := [.ref a, u]) (vs := [.ref a, y]) F hr hb .nil hx I (.cons rfl (.cons ry .nil)) q) (fun _ _ z => back_ep z) fun _ _ z => z

/-- b in a, a an instance with the method f -/
def rInO (C : Addr) (sp : Sp) (E : XK) (g : Bool → Bool) : R2 := fun x y H Q => ∃ a dx fs, y = .ref a ∧ H a = some (.ins C dx fs) ∧ sp [.ref a, x] H (fun v H' => ∃ b, v = .bl b ∧ Q (.bl (g b)) H') E
theorem op_inO (R : Meth X.K C "__contains__" f) (F : FnOk X.prog X.w X.K X.mg X.base CX k f fd ps sp) (hr : Room k X.A) (hb : Binds X.K fd ps []) (hx : Passes CX X E) : OpR X (compareOp .In) (rInO C sp E id) := by
  intro pins s σ H x y v u Q I rx ry h
  obtain ⟨a, dx, fs, rfl, ea, q⟩ := h
  cases (show u = Value.ref a from ry)
  obtain ⟨mA, O, _⟩ := ins_get I.hok ea
  obtain ⟨od, J, _⟩ := O.look
  obtain ⟨m, Fm⟩ := I.fr
  refine in_K Fm I.mod.kin J R.at_ R.fn ?_
  refine wpAny_mono (run_fn (us := [.ref a, v]) (vs := [.ref a, x]) F hr hb .nil hx I (.cons rfl (.cons rx .nil)) q) (fun z s' hz => ?_) fun _ _ z => z
  obtain ⟨v', H', I', r', b, rfl, q'⟩ := hz
  cases (show z = Value.bool b from r')
  exact wpAny_truthy_bool ⟨.bl b, H', I', rfl, q'⟩
theorem op_notInO (R : Meth X.K C "__contains__" f) (F : FnOk X.prog X.w X.K X.mg X.base CX k f fd ps sp) (hr : Room k X.A) (hb : Binds X.K fd ps []) (hx : Passes CX X E) : OpR X (compareOp .NotIn) (rInO C sp E not) := by
  intro pins s σ H x y v u Q I rx ry h
  obtain ⟨a, dx, fs, rfl, ea, q⟩ := h
  cases (show u = Value.ref a from ry)
  obtain ⟨mA, O, _⟩ := ins_get I.hok ea
  obtain ⟨od, J, _⟩ := O.look
  obtain ⟨m, Fm⟩ := I.fr
  refine notIn_K Fm I.mod.kin J R.at_ R.fn ?_
  refine wpAny_mono (run_fn (us := [.ref a, v]) (vs := [.ref a, x]) F hr hb .nil hx I (.cons rfl (.cons rx .nil)) q) (fun z s' hz => ?_) fun _ _ z => z
  obtain ⟨v', H', I', r', b, rfl, q'⟩ := hz
  cases (show z = Value.bool b from r')
  exact wpAny_truthy_bool ⟨.bl (!b), H', I', rfl, q'⟩

/-- a != b by the __eq__ of the class of a and object's __ne__ -/
structure NeOf (K : Frag) (C : Addr) (f : Addr) : Prop where
  eq : findIn K (.ref C) "__eq__" = some (some (.ref f))
  fn : isFn K (.ref f) = true
  ne : findIn K (.ref C) "__ne__" = some (some (.builtin "object.__ne__"))
  obj : mroIn K C (.type "object") = some true
theorem ne_obj {b tb : Value} {x : Addr} {ox : Obj} {od : Option Obj} {K : Frag} {prog : Program} {w : World} {A : Around} {Er : Value → Shared → Prop} {Q : Value → Shared → Prop} (hu : A.units + 1 < cLine) (X : K.In s.heap) (I : InstAt s.heap x ox C od)
    (hb : Looks (model prog w) s.heap (typeOf b) tb) (hn : notFirst K C tb = true) (R : NeOf K C f)
    (h : wpAny (model prog w) A.in1 (call (.ref f) [.ref x, b]) (fun v s' => ∃ k, v = .bool k ∧ Q (.bool (!k)) s') Er s) : wpAny (model prog w) A (compareOp .NotEq (.ref x) b) Q Er s := by
  have sub : Looks (model prog w) s.heap (isInstance (.ref x) (.type "object")) true := I.type.andThen (looks_mroIn X R.obj)
  have one : wpAny (model prog w) A (tryCompare (.ref x) "__ne__" b) (fun r s' => ∃ v, r = some v ∧ Q v s') Er s := by
    unfold tryCompare
    refine wpAny_bind ?_
    simp only [callSpecialIfBound?, bindSpecialIfBound?]
    refine wpAny_holding (wpAny_bind (wpAny_bind (wpAny_bind (I.type.here ((looks_findIn X R.ne).here ?_)))))
    have S := F.cmp_object.ne
    simp only [S.bind]
    refine wpAny_bind (wpAny_askSetting (wpAny_ite ?_))
    have fin : wpAny (model prog w) A (call (.builtin "object.__ne__") ([.ref x] ++ [b]) >>= fun v => pure (some v)) (fun a s' => wpAny (model prog w) A (match a with | some .notImplemented | none => pure none | some v => pure (some v)) (fun r s' => ∃ v, r = some v ∧ Q v s') Er s') Er s := by
      refine wpAny_bind (wpAny_call (codeAny_call_builtin S.plain F.cmpEntry_ne (check_slot F.cmpKind_ne F.cmpSplit_ne sub (F.cmpArgs_ne _ _) ?_)))
      unfold Builtin.«object.__ne__»
      obtain ⟨hp, g, d, t, os⟩ := s
      repeat (first
        | with_reducible refine wpAny_cRoomFor hu ?_
        | (refine wpAny_bind (m := callSpecialIfBound? (.ref x) (Str.ofString "__eq__") [b])
            (ifBound_K X I R.eq R.fn (wpAny_mono h (fun r s' hr => by
              obtain ⟨k, rfl, hq⟩ := hr
              repeat (first | exact ⟨_, rfl, hq⟩ | exact wpAny_pure (wpAny_pure ⟨_, rfl, hq⟩) | exact wpAny_pure ⟨_, rfl, hq⟩ | exact wpAny_truthy_bool hq | (refine wpAny_bind (m := truthy (.bool _)) (wpAny_truthy_bool ?_)) | wp_step)) fun _ _ e => e)))
        | wp_step)
    split
    · exact wpAny_bind (wpAny_pure (wpAny_pure (by exact fin)))
    · exact wpAny_tryCatch (wpAny_bind (wpAny_pure (wpAny_pure (by exact fin))))
  show wpAny _ _ (richCompare .NotEq (.ref x) b) _ _ _
  unfold richCompare
  simp only [oneThing_ref]
  refine wpAny_holding (wpAny_bind (wpAny_cRoomFor (Nat.lt_of_succ_lt hu) ?_))
  rw [show cmpInfo .NotEq = (("!=", "__ne__", "__ne__") : String × Str × Str) from rfl]
  dsimp only
  refine wpAny_bind (I.type.here (wpAny_bind (hb.here ?_)))
  split
  · rename_i q
    have e : subIn K tb (.ref C) = some false := by
      rcases Bool.or_eq_true_iff.mp hn with e | e
      · rw [beq_iff_eq.mp e] at q; simp at q
      · exact beq_iff_eq.mp e
    refine wpAny_bind ((looks_subIn X e).here ?_)
    simp only [Bool.false_eq_true, if_false]
    refine wpAny_bind (wpAny_mono one (fun r s' z => ?_) fun _ _ e => e)
    obtain ⟨v, rfl, hq⟩ := z
    exact wpAny_pure hq
  · refine wpAny_bind (wpAny_pure ?_)
    simp only [Bool.false_eq_true, if_false]
    refine wpAny_bind (wpAny_mono one (fun r s' z => ?_) fun _ _ e => e)
    obtain ⟨v, rfl, hq⟩ := z
    exact wpAny_pure hq

def rNeO (K : Frag) (C : Addr) (sp : Sp) (E : XK) : R2 := fun x y H Q => ∃ a dx fs t, x = .ref a ∧ H a = some (.ins C dx fs) ∧ TyX K H y t ∧ notFirst K C t = true ∧ sp [.ref a, y] H (fun v H' => ∃ b, v = .bl b ∧ Q (.bl (!b)) H') E
theorem run_in1 {Q : VK} {us : List Value} {vs : List V} (F : FnOk X.prog X.w X.K X.mg X.base CX k f fd ps sp) (hr : Room (k + 1) X.A) (hb : Binds X.K fd ps []) (hx : Passes CX X E)
    (I : Inv X pins σ H s) (r : Vals vs us) (h : sp vs H Q E) : wpAny (model X.prog X.w) X.A.in1 (call (.ref f) us) (EP X pins σ Q) X.xe s := by
  have hl : us.length = ps.length := by rw [← r.length]; exact F.len _ _ _ _ h
  have hb' := hb s us I.kIn (by rw [List.append_nil]; exact hl)
  rw [List.append_nil] at hb'
  refine wpAny_call (codeAny_mono (F.run X.A.in1 X.stack s H ⟨us, []⟩ us vs Q E hr.in1 I.env0.in1 hb' r h) fun r s' hq => ?_)
  cases r with
  | error e => exact hx pins σ H s e s' I hq
  | ok fl =>
    cases fl with
    | ret u => exact I.after hq
    | next => exact False.elim hq
    | brk => exact False.elim hq
    | cont => exact False.elim hq
theorem op_neO (R : NeOf X.K C f) (F : FnOk X.prog X.w X.K X.mg X.base CX k f fd ps sp) (hr : Room (k + 1) X.A) (hb : Binds X.K fd ps []) (hx : Passes CX X E) : OpR X (compareOp .NotEq) (rNeO X.K C sp E) := by
  intro pins s σ H x y v u Q I rx ry h
  obtain ⟨a, dx, fs, t, rfl, ea, ty, nf, q⟩ := h
  cases (show v = Value.ref a from rx)
  obtain ⟨mA, O, _⟩ := ins_get I.hok ea
  obtain ⟨od, J, _⟩ := O.look
  refine ne_obj (hu_of hr) I.kIn J (looks_ty I ry ty) nf R ?_
  refine wpAny_mono (run_in1 (us := [.ref a, u]) (vs := [.ref a, y]) F hr hb hx I (.cons rfl (.cons ry .nil)) q) (fun z s' hz => ?_) fun _ _ z => z
  obtain ⟨v', H', I', r', b, rfl, q'⟩ := hz
  cases (show z = Value.bool b from r')
  exact ⟨b, rfl, .bl (!b), H', I', rfl, q'⟩
theorem rich_eq (a b : Value) : compareOp .Eq a b = richCompare .Eq a b := rfl
theorem rich_lt (a b : Value) : compareOp .Lt a b = richCompare .Lt a b := rfl
theorem rich_le (a b : Value) : compareOp .LtE a b = richCompare .LtE a b := rfl
theorem rich_gt (a b : Value) : compareOp .Gt a b = richCompare .Gt a b := rfl
theorem rich_ge (a b : Value) : compareOp .GtE a b = richCompare .GtE a b := rfl
end
end Ol

namespace Ol
open PySem L2
theorem pe_gi {X : Cx} {x : Str} {i : Int} {pos : Pos} (hg : Gl X x) (h : ∃ t, X.mg x = some (Value.int i t)) (hd : (x == ("__debug__" : Str)) = false := by decide) : PE X (.Name x pos) (tC (.int i)) := by
  obtain ⟨t, h⟩ := h
  exact pe_glob hg h ⟨t, rfl⟩ hd
/-! ### heaps that a pen is drawn from -/
/-- all that stands beside p stays -/
def Go (p : Addr) (H H' : Hp) : Prop := ∀ b o, b ≠ p → H b = some o → H' b = some o
theorem Go.refl (p : Addr) (H : Hp) : Go p H H := fun _ _ _ h => h
theorem Go.trans {p : Addr} {H H1 H2 : Hp} (a : Go p H H1) (b : Go p H1 H2) : Go p H H2 := fun c o n h => b c o n (a c o n h)
theorem Same.go {p : Addr} {H H' : Hp} (s : Same H H') : Go p H H' := fun b o _ h => s b o h
theorem Same.new {H : Hp} {q : Addr} {o : HO} (h : H q = none) : Same H (upd H q o) := fun b u e => by rw [upd_ne (ne_of_none e h)]; exact e
theorem Go.new {p : Addr} {H : Hp} {q : Addr} {o : HO} (h : H q = none) : Go p H (upd H q o) := Same.go (Same.new h)
/-- an object beside p -/
structure At (p : Addr) (H : Hp) (b : Addr) (o : HO) : Prop where
  ne : b ≠ p
  at_ : H b = some o
theorem At.go {p b : Addr} {H H' : Hp} {o : HO} (a : At p H b o) (g : Go p H H') : At p H' b o := ⟨a.ne, g _ _ a.ne a.at_⟩
/-- the pen: its cells, how many are used, what is left of a great one; n more draws are let -/
def Pen (p : Addr) (H : Hp) (n : Nat) : Prop := ∃ (l : Addr) (cells : List Int) (spot great : Int), H p = some (.lst [.ref l, .int spot, .int great]) ∧ l ≠ p ∧ H l = some (.lst (cells.map V.int)) ∧ 0 ≤ spot ∧ spot + n ≤ 4000000 ∧ 0 ≤ great ∧ cells.length ≤ 63
theorem Pen.le {p : Addr} {H : Hp} {m n : Nat} (h : Pen p H n) (le : m ≤ n) : Pen p H m := by
  obtain ⟨l, c, s, g, h1, h2, h3, h4, h5, h6, h7⟩ := h
  exact ⟨l, c, s, g, h1, h2, h3, h4, by omega, h6, h7⟩
theorem Pen.same {p : Addr} {H H' : Hp} {n : Nat} (h : Pen p H n) (s : Same H H') : Pen p H' n := by
  obtain ⟨l, c, sp, g, h1, h2, h3, h4⟩ := h
  exact ⟨l, c, sp, g, s _ _ h1, h2, s _ _ h3, h4⟩
theorem Pen.new {p q : Addr} {H : Hp} {n : Nat} {o : HO} (h : Pen p H n) (hq : H q = none) : Pen p (upd H q o) n := h.same (Same.new hq)
theorem Pen.ne {p q : Addr} {H : Hp} {n : Nat} (h : Pen p H n) (hq : H q = none) : q ≠ p := by
  obtain ⟨l, c, sp, g, h1, _⟩ := h
  exact (ne_of_none h1 hq).symm
/-- a new object beside the pen -/
theorem Pen.at {p q : Addr} {H : Hp} {n : Nat} {o : HO} (h : Pen p H n) (hq : H q = none) : At p (upd H q o) q o := ⟨h.ne hq, upd_same⟩
theorem Pen.ins {p b C dx : Addr} {fs : List (Str × V)} {H : Hp} {n : Nat} (h : Pen p H n) (hb : H b = some (.ins C dx fs)) : At p H b (.ins C dx fs) := by
  obtain ⟨l, c, sp, g, h1, _⟩ := h
  exact ⟨ne_of hb h1 (by intro z; cases z), hb⟩
theorem Pen.tup {p b : Addr} {xs : List V} {H : Hp} {n : Nat} (h : Pen p H n) (hb : H b = some (.tup xs)) : At p H b (.tup xs) := by
  obtain ⟨l, c, sp, g, h1, _⟩ := h
  exact ⟨ne_of hb h1 (by intro z; cases z), hb⟩
/-! ### the promises of the law's own pen -/
def spPen (K : PySem.W.Frag) : Sp := fun vs H Q _ => ∃ (a : Addr) (ns : List Int), vs = [.ref a] ∧ SqL K H a (ns.map V.int) ∧ ns.length ≤ 63 ∧ ∀ (p : Addr) (H' : Hp), Same H H' → H p = none → Pen p H' 4000000 → Q (.ref p) H'
def spDraw : Sp := fun vs H Q _ => ∃ (p : Addr) (many : Int) (n : Nat), vs = [.ref p, .int many] ∧ 0 < many ∧ many.natAbs < 2 ^ 250 ∧ Pen p H (n + 1) ∧ ∀ (d : Int) (H' : Hp), Go p H H' → Pen p H' n → 0 ≤ d → d < many → Q (.int d) H'
def spPick (K : PySem.W.Frag) : Sp := fun vs H Q _ => ∃ (p q : Addr) (xs : List V) (n : Nat), vs = [.ref p, .ref q] ∧ At p H q (.lst xs) ∧ 0 < xs.length ∧ xs.length ≤ 1000 ∧ Pen p H (n + 1) ∧ ∀ (v : V) (H' : Hp), Go p H H' → Pen p H' n → v ∈ xs → Q v H'
/-! ### kinds -/
structure IsC (K : PySem.W.Frag) (C : Addr) : Prop where
  cl : Cls K C
  ha : PySem.W.findIn K (.ref C) "__class__" = some (some (.builtin "object.__class__"))
  hn : PySem.W.specialIn K (.builtin "object.__class__") "__get__" = some (some (.builtin "getset_descriptor.__get__"))
  htk : PySem.W.takesIn K (.builtin "object.__class__") = some true
  hm : PySem.W.mroIn K C (.type "object") = some true
theorem IsC.ty {K : PySem.W.Frag} {C a dx : Addr} {fs : List (Str × V)} {H : Hp} (i : IsC K C) (h : H a = some (.ins C dx fs)) : TyX K H (.ref a) (.ref C) := .base (.ins h i.cl i.ha i.hn i.htk i.hm)
theorem kit_int_int {K : PySem.W.Frag} : PySem.W.kitOne K (.type "int") (.type "int") = some true := kit_ty (by decide +kernel)
theorem kit_int_bool {K : PySem.W.Frag} : PySem.W.kitOne K (.type "int") (.type "bool") = some false := kit_ty (by decide +kernel)
theorem kit_bool_int {K : PySem.W.Frag} : PySem.W.kitOne K (.type "bool") (.type "int") = some true := kit_ty (by decide +kernel)
theorem kit_bool_bool {K : PySem.W.Frag} : PySem.W.kitOne K (.type "bool") (.type "bool") = some true := kit_ty (by decide +kernel)
theorem kit_self {K : PySem.W.Frag} {t : Value} : PySem.W.kitOne K t t = some true := by unfold PySem.W.kitOne; rw [if_pos (by simp)]
/-- a value that is no int (a bool may be) -/
def NoInt (K : PySem.W.Frag) (H : Hp) (x : V) : Prop := ∃ (t : Value) (b : Bool), TyX K H x t ∧ PySem.W.kitOne K t (.type "int") = some b ∧ (b = true → PySem.W.kitOne K t (.type "bool") = some true)
def spIsInt (K : PySem.W.Frag) : Sp := fun vs H Q _ => ∃ x, vs = [x] ∧ ((∃ i, x = .int i ∧ Q (.bl true) H) ∨ (NoInt K H x ∧ Q (.bl false) H))
def spBetween (K : PySem.W.Frag) : Sp := fun vs H Q _ => ∃ x lo hi, vs = [x, .int lo, .int hi] ∧ ((∃ i, x = .int i ∧ Q (.bl (decide (lo ≤ i ∧ i ≤ hi))) H) ∨ (NoInt K H x ∧ Q (.bl false) H))
def spMoment (K : PySem.W.Frag) : Sp := fun vs H Q _ => ∃ x, vs = [x] ∧ ((∃ i, x = .int i ∧ Q (.bl (decide (i.natAbs < 10 ^ 60))) H) ∨ (NoInt K H x ∧ Q (.bl false) H))
end Ol

namespace Ol
open PySem L2
/-! ### one reading, one step -/
section
variable {K : PySem.W.Frag} {σ : L2.St} {H : Hp} {Q : VK} {ta tb tc te : TE} {t u : TT} {ts us : TS} {tr : TA} {D : Ends} {v x y : V} {i j : Int} {C : Addr}
theorem t_ret (h : te σ H D.rt) : tRet te D σ H := h
theorem t_retN (h : D.rt .non H) : tRetN D σ H := h
theorem t_next (h : D.nx σ H) : tNext D σ H := h
theorem t_break (h : D.bk σ H) : tBreak D σ H := h
theorem t_cont (h : D.ct σ H) : tCont D σ H := h
theorem t_seq (h : ts { D with nx := us D } σ H) : tSeq ts us D σ H := h
theorem t_drop (h : te σ H fun _ H1 => D.nx σ H1) : tDrop te D σ H := h
theorem t_asg {g : TG} (h : te σ H fun x H1 => g x σ H1 D.nx) : tAsg te g D σ H := h
theorem t_name {k : Nat} {R : L2.St → Hp → Prop} (h : R (σ.set k (some v)) H) : gName k v σ H R := h
theorem t_ifS (h : t σ H fun b H1 => if b = true then ts D σ H1 else us D σ H1) : tIfS t ts us D σ H := h
theorem t_par {k l : Nat} (h : tr σ H fun vs H1 => ∃ v w, vs = [v, w] ∧ D.nx ((σ.set k (some v)).set l (some w)) H1) : tPar k l tr D σ H := h
theorem ex_par {P : V → V → Prop} (h : P x y) : ∃ v w, [x, y] = [v, w] ∧ P v w := ⟨x, y, rfl, h⟩
theorem t_var {k : Nat} (e : σ[k]? = some (some v)) (h : Q v H) : tVar k σ H Q := ⟨v, e, h⟩
theorem t_c (h : Q v H) : tC v σ H Q := h
theorem t_op {r : R2} (h : ta σ H fun x H1 => tb σ H1 fun y H2 => r x y H2 Q) : tOp r ta tb σ H Q := h
theorem t_un {r : V → Hp → VK → Prop} (h : ta σ H fun x H1 => r x H1 Q) : tUn r ta σ H Q := h
theorem t_andV (h : ta σ H fun x H1 => ∃ c, x = .bl c ∧ if c = true then tb σ H1 Q else Q (.bl false) H1) : tAndV ta tb σ H Q := h
theorem t_orV (h : ta σ H fun x H1 => ∃ c, x = .bl c ∧ if c = true then Q (.bl true) H1 else tb σ H1 Q) : tOrV ta tb σ H Q := h
theorem t_notV (h : ta σ H fun x H1 => ∃ c, x = .bl c ∧ Q (.bl (!c)) H1) : tNotV ta σ H Q := h
theorem t_if (h : t σ H fun c H1 => if c = true then ta σ H1 Q else tb σ H1 Q) : tIf t ta tb σ H Q := h
theorem t_B {R : Bool → Hp → Prop} (h : te σ H fun x H1 => ∃ c, x = .bl c ∧ R c H1) : tB te σ H R := h
theorem t_test {R : Bool → Hp → Prop} (h : te σ H fun x H1 => ∃ c, x = .bl c ∧ R c H1) : tTest te σ H R := h
theorem t_and {R : Bool → Hp → Prop} (h : t σ H fun c H1 => if c = true then u σ H1 R else R false H1) : tAnd t u σ H R := h
theorem t_or {R : Bool → Hp → Prop} (h : t σ H fun c H1 => if c = true then R true H1 else u σ H1 R) : tOr t u σ H R := h
theorem t_not {R : Bool → Hp → Prop} (h : t σ H fun c H1 => R (!c) H1) : tNot t σ H R := h
theorem t_chain {r r' : R2} (h : ta σ H fun x H1 => tb σ H1 fun y H2 => r x y H2 fun z H3 => ∃ k, z = .bl k ∧ (if k = true then tc σ H3 fun w' H4 => r' y w' H4 Q else Q (.bl false) H3)) : tChain r r' ta tb tc σ H Q := h
theorem t_cb {r : List V → Hp → VK → Prop} (h : tr σ H fun vs H1 => r vs H1 Q) : tCB r tr σ H Q := h
theorem t_nil {R : List V → Hp → Prop} (h : R [] H) : tNil σ H R := h
theorem t_cons {R : List V → Hp → Prop} (h : ta σ H fun x H1 => tr σ H1 fun xs H2 => R (x :: xs) H2) : tCons ta tr σ H R := h
theorem t_call {sp : Sp} {E : XK} (h : tr σ H fun vs H1 => sp vs H1 Q E) : tCall sp [] E tr σ H Q := by
  show tr σ H fun vs H1 => sp (vs ++ []) H1 Q E
  simpa only [List.append_nil] using h
theorem t_meth {m : Str} {sp : Sp} {E : XK} (h : ta σ H fun x H1 => ∃ a dx fs, x = .ref a ∧ H1 a = some (.ins C dx fs) ∧ fs.lookup m = none ∧ tr σ H1 fun vs H2 => sp (x :: vs) H2 Q E) : tMeth C m sp [] E ta tr σ H Q := by
  show ta σ H fun x H1 => ∃ a dx fs, x = .ref a ∧ H1 a = some (.ins C dx fs) ∧ fs.lookup m = none ∧ tr σ H1 fun vs H2 => sp (x :: (vs ++ [])) H2 Q E
  simpa only [List.append_nil] using h
theorem t_lst (h : tr σ H fun xs H1 => xs.length ≤ sizeLine ∧ ∀ p, H1 p = none → Q (.ref p) (upd H1 p (.lst xs))) : tLst tr σ H Q := h
theorem t_tup (h : tr σ H fun xs H1 => xs.length ≤ sizeLine ∧ ∀ p, H1 p = none → Q (.ref p) (upd H1 p (.tup xs))) : tTup tr σ H Q := h
theorem t_fld {f : Str} (h : ta σ H fun x H1 => ∃ a C dx fs v, x = .ref a ∧ H1 a = some (.ins C dx fs) ∧ Cls K C ∧ NoAttr K C f ∧ fs.lookup f = some v ∧ Q v H1) : tFld K ta f σ H Q := h
theorem t_sfld {f : Str} (h : tb σ H fun y H1 => ta σ H1 fun x H2 => ∃ a C dx fs, x = .ref a ∧ H2 a = some (.ins C dx fs) ∧ Cls K C ∧ NoAttr K C f ∧ fs.length < 1000 ∧ D.nx σ (upd H2 a (.ins C dx (putF f y fs)))) : sFld K ta tb f D σ H := h
theorem lst_ok {xs : List V} (h : Nat.ble xs.length 1000 = true) : xs.length ≤ sizeLine := Nat.le_trans (Nat.le_of_ble_eq_true h) (by decide)
theorem t_noPart {R : Option Int → Hp → Prop} (h : R none H) : tNoPart σ H R := h
theorem t_part {R : Option Int → Hp → Prop} (h : te σ H fun x H1 => ∃ i, x = .int i ∧ R (some i) H1) : tPart te σ H R := h
theorem t_sl {r : V → Option Int → Option Int → Hp → VK → Prop} {tl th : TO} (h : te σ H fun x H1 => tl σ H1 fun l H2 => th σ H2 fun u H3 => r x l u H3 Q) : tSl r te tl th σ H Q := h
theorem t_sub {to ti : TE} {ts : TSet} {R : L2.St → Hp → Prop} (h : to σ H fun o H1 => ti σ H1 fun i H2 => ts o i v H2 fun H3 => R σ H3) : gSub to ti ts v σ H R := h
theorem ex_bl {b : Bool} {P : Bool → Prop} (h : P b) : ∃ c, V.bl b = V.bl c ∧ P c := ⟨b, rfl, h⟩
theorem ex_int {P : Int → Prop} (h : P i) : ∃ c, V.int i = V.int c ∧ P c := ⟨i, rfl, h⟩
theorem r_I0 {g : Int → Int → V} (h : Q (g i j) H) : rI0 g (.int i) (.int j) H Q := ⟨i, j, rfl, rfl, h⟩
theorem r_I {c : Int → Int → Prop} {g : Int → Int → V} (hc : c i j) (h : Q (g i j) H) : rI c g (.int i) (.int j) H Q := ⟨i, j, rfl, rfl, hc, h⟩
theorem r_U {g : Int → V} (h : Q (g i) H) : rU g (.int i) H Q := ⟨i, rfl, h⟩
theorem dec_int {i j : Int} : decide (V.int i = V.int j) = decide (i = j) := by
  by_cases e : i = j
  · rw [e]; simp
  · rw [decide_eq_false e, decide_eq_false fun q => e (V.int.inj q)]
theorem dec_bl {i j : Bool} : decide (V.bl i = V.bl j) = decide (i = j) := by
  by_cases e : i = j
  · rw [e]; simp
  · rw [decide_eq_false e, decide_eq_false fun q => e (V.bl.inj q)]
theorem dec_str {i j : Str} : decide (V.str i = V.str j) = decide (i = j) := by
  by_cases e : i = j
  · rw [e]; simp
  · rw [decide_eq_false e, decide_eq_false fun q => e (V.str.inj q)]
theorem r_eqI (h : Q (.bl (decide (i = j))) H) : rEq (.int i) (.int j) H Q := ⟨rfl, by rw [dec_int]; exact h⟩
theorem r_neI (h : Q (.bl (!decide (i = j))) H) : rNe (.int i) (.int j) H Q := ⟨rfl, by rw [dec_int]; exact h⟩
theorem r_eqB {i j : Bool} (h : Q (.bl (decide (i = j))) H) : rEq (.bl i) (.bl j) H Q := ⟨rfl, by rw [dec_bl]; exact h⟩
theorem r_neB {i j : Bool} (h : Q (.bl (!decide (i = j))) H) : rNe (.bl i) (.bl j) H Q := ⟨rfl, by rw [dec_bl]; exact h⟩
theorem r_eqS {i j : Str} (h : Q (.bl (decide (i = j))) H) : rEq (.str i) (.str j) H Q := ⟨rfl, by rw [dec_str]; exact h⟩
theorem r_neS {i j : Str} (h : Q (.bl (!decide (i = j))) H) : rNe (.str i) (.str j) H Q := ⟨rfl, by rw [dec_str]; exact h⟩
theorem r_ixL {p : Addr} {xs : List V} (h : SqL K H p xs) (e : atI xs i = some v) (q : Q v H) : rIxL K (.ref p) (.int i) H Q := ⟨p, xs, i, v, rfl, rfl, h, e, q⟩
theorem r_ixT {p : Addr} {xs : List V} (h : SqT K H p xs) (e : atI xs i = some v) (q : Q v H) : rIxT K (.ref p) (.int i) H Q := ⟨p, xs, i, v, rfl, rfl, h, e, q⟩
theorem c_int1 {P : Int → Prop} {R : Prop} (h : P i) : (∃ k, [V.int i] = [V.int k] ∧ P k) ∨ R := .inl ⟨i, rfl, h⟩
theorem c_intB {b : Bool} {P : Bool → Prop} {R : Prop} (h : P b) : R ∨ ∃ k, [V.bl b] = [V.bl k] ∧ P k := .inr ⟨b, rfl, h⟩
theorem ite_n {b : Bool} {A B : Prop} (h : if b = true then B else A) : if (!b) = true then A else B := by cases b <;> exact h
theorem ite_y {c : Prop} [Decidable c] {A B : Prop} (hc : c) (h : A) : if decide c = true then A else B := by rw [decide_eq_true hc]; exact iteT h
theorem ite_f {c : Prop} [Decidable c] {A B : Prop} (hc : ¬ c) (h : B) : if decide c = true then A else B := by rw [decide_eq_false hc]; exact iteF h
theorem ite_d {c : Prop} [Decidable c] {A B : Prop} (h1 : c → A) (h2 : ¬ c → B) : if decide c = true then A else B := by
  by_cases hc : c
  · exact ite_y hc (h1 hc)
  · exact ite_f hc (h2 hc)
theorem t_make {sp : Sp} {E : XK} (h : tr σ H fun vs H1 => ∀ x dx, H1 x = none → H1 dx = none → dx ≠ x → sp (.ref x :: vs) (upd (upd H1 dx (.own x)) x (.ins C dx [])) (fun v H2 => v = .non ∧ Q (.ref x) H2) E) : tMake C sp [] E tr σ H Q := by
  show tr σ H fun vs H1 => ∀ x dx, H1 x = none → H1 dx = none → dx ≠ x → sp (.ref x :: (vs ++ [])) (upd (upd H1 dx (.own x)) x (.ins C dx [])) (fun v H2 => v = .non ∧ Q (.ref x) H2) E
  simpa only [List.append_nil] using h
theorem t_par3 {k l m : Nat} (h : tr σ H fun vs H1 => ∃ u v w, vs = [u, v, w] ∧ D.nx (((σ.set k (some u)).set l (some v)).set m (some w)) H1) : tPar3 k l m tr D σ H := h
def ForW (J : L2.It) (g : TG) (tb : TS) (D : Ends) (σ : L2.St) (H1 : Hp) : Prop := ∃ W : Nat → Nat → L2.St → Hp → Prop, (∃ m, W 0 m σ H1) ∧ ∀ i m σ H, W i m σ H →
  (J.stop i H ∧ D.nx σ H) ∨ (J.go i H ∧ ∃ N : L2.St → Hp → Prop, (∀ σ' H', N σ' H' → ∃ m', m' < m ∧ W (i + 1) m' σ' H') ∧ ∀ x H', J.yld i H x H' → g x σ H' fun σ2 H2 => tb { D with nx := N, ct := N, bk := D.nx } σ2 H2)
theorem t_for1 {g : TG} (h : tr σ H fun vs H1 => ∃ j : Int, vs = [.int j] ∧ -(2 ^ 62) ≤ j ∧ j < 2 ^ 62 ∧ ForW (Itr 0 j.toNat) g ts D σ H1) : tFor (iRng1 tr) g ts D σ H := h
theorem t_forL {g : TG} (h : ta σ H fun x H1 => ∃ a, x = .ref a ∧ (∃ xs, SqL K H1 a xs) ∧ ForW (Itl K a) g ts D σ H1) : tFor (iList K ta) g ts D σ H := h
theorem t_forT {g : TG} (h : ta σ H fun x H1 => ∃ a, x = .ref a ∧ (∃ xs, SqT K H1 a xs) ∧ ForW (Itt K a) g ts D σ H1) : tFor (iTup K ta) g ts D σ H := h
theorem ex_rng {g : TG} {n : Nat} {j : Int} (hj : j = (n : Int)) (hn : n < 2 ^ 62) (Pv : Nat → L2.St → Hp → Prop) (h0 : Pv 0 σ H) (hs : ∀ (i : Nat) σ H, i < n → Pv i σ H → g (.int (i : Int)) σ H fun σ2 H2 => ts { D with nx := Pv (i + 1), ct := Pv (i + 1), bk := D.nx } σ2 H2)
    (hd : ∀ σ H, Pv n σ H → D.nx σ H) : -(2 ^ 62) ≤ j ∧ j < 2 ^ 62 ∧ ForW (Itr 0 j.toNat) g ts D σ H := by
  subst hj
  refine ⟨by omega, by omega, for_range (lo := 0) (n := n) Pv h0 (fun i σ H hi p => ?_) hd⟩
  rw [Int.zero_add]
  exact hs i σ H hi p
theorem ex_lst {g : TG} {a : Addr} {xs : List V} (hx : SqL K H a xs) (Pv : Nat → L2.St → Hp → Prop) (h0 : Pv 0 σ H) (hl : ∀ i σ H, i ≤ xs.length → Pv i σ H → SqL K H a xs)
    (hs : ∀ i x σ H, xs[i]? = some x → Pv i σ H → g x σ H fun σ2 H2 => ts { D with nx := Pv (i + 1), ct := Pv (i + 1), bk := D.nx } σ2 H2) (hd : ∀ σ H, Pv xs.length σ H → D.nx σ H) :
    ∃ b, V.ref a = .ref b ∧ (∃ xs, SqL K H b xs) ∧ ForW (Itl K b) g ts D σ H := ⟨a, rfl, ⟨xs, hx⟩, for_list Pv h0 hl hs hd⟩
theorem ex_tup {g : TG} {a : Addr} {xs : List V} (hx : SqT K H a xs) (Pv : Nat → L2.St → Hp → Prop) (h0 : Pv 0 σ H) (hl : ∀ i σ H, i ≤ xs.length → Pv i σ H → SqT K H a xs)
    (hs : ∀ i x σ H, xs[i]? = some x → Pv i σ H → g x σ H fun σ2 H2 => ts { D with nx := Pv (i + 1), ct := Pv (i + 1), bk := D.nx } σ2 H2) (hd : ∀ σ H, Pv xs.length σ H → D.nx σ H) :
    ∃ b, V.ref a = .ref b ∧ (∃ xs, SqT K H b xs) ∧ ForW (Itt K b) g ts D σ H := ⟨a, rfl, ⟨xs, hx⟩, for_tup Pv h0 hl hs hd⟩
theorem dpAll_ints : ∀ ns : List Int, DpAll K H (ns.map V.int) (ns.map PyData.int)
  | [] => .nil
  | n :: r => .cons (.int n) (dpAll_ints r)
theorem r_neNil {p q : Addr} {ns : List Int} (h1 : SqL K H p (ns.map V.int)) (h2 : SqL K H q []) (h : Q (.bl (!ns.isEmpty)) H) : rNeD K (.ref p) (.ref q) H Q := by
  refine ⟨_, _, .lst h1 (dpAll_ints ns), .lst h2 .nil, PySem.W.ke_shaped_ints ns, by decide, ?_⟩
  cases ns with
  | nil => exact h
  | cons n r => exact h
theorem c_len {p : Addr} {xs : List V} {P : List V → Prop} (h : SqL K H p xs ∨ SqT K H p xs) (q : P xs) : ∃ a ys, [V.ref p] = [.ref a] ∧ (SqL K H a ys ∨ SqT K H a ys) ∧ P ys := ⟨p, xs, rfl, h, q⟩
theorem c_abs {P : Int → Prop} (h : P i) : ∃ k, [V.int i] = [.int k] ∧ P k := ⟨i, rfl, h⟩
theorem ex_par3 {z : V} {P : V → V → V → Prop} (h : P x y z) : ∃ v w u, [x, y, z] = [v, w, u] ∧ P v w u := ⟨x, y, z, rfl, h⟩
theorem abs_lt60 {i : Int} : decide ((if i < 0 then -i else i) < 10 ^ Int.toNat 60) = decide (i.natAbs < 10 ^ 60) := by
  have e : (10 : Int) ^ Int.toNat 60 = ((10 ^ 60 : Nat) : Int) := by decide
  rw [e]
  generalize (10 ^ 60 : Nat) = n
  by_cases h : i.natAbs < n
  · rw [decide_eq_true h, decide_eq_true]; split <;> omega
  · rw [decide_eq_false h, decide_eq_false]; split <;> omega
end
theorem cut63 {ns : List Int} (h : ns.length ≤ 63) : cutV (ns.map V.int) none (some 63) = ns.map V.int := by
  have e1 : HT.sIx (ns.map V.int).length 0 none = 0 := rfl
  have e2 : HT.sIx (ns.map V.int).length (ns.map V.int).length (some 63) = ns.length := by
    unfold HT.sIx
    simp only [List.length_map]
    first | omega | (split <;> omega) | (simp; omega)
  unfold cutV
  rw [e1, e2, List.drop_zero, Nat.sub_zero, ← List.length_map (f := V.int), List.take_length]
theorem at_ints {ns : List Int} {i : Int} (h0 : 0 ≤ i) (h1 : i < ns.length) : ∃ c, atI (ns.map V.int) i = some (.int c) := by
  obtain ⟨j, rfl⟩ : ∃ j : Nat, i = j := ⟨i.toNat, by omega⟩
  have hj : j < ns.length := by omega
  refine ⟨ns[j], ?_⟩
  unfold atI
  rw [List.length_map, Evl.ixN_nat hj]
  simp [hj]
theorem at_mem {xs : List V} {i : Int} (h0 : 0 ≤ i) (h1 : i < xs.length) : ∃ v, atI xs i = some v ∧ v ∈ xs := by
  obtain ⟨j, rfl⟩ : ∃ j : Nat, i = j := ⟨i.toNat, by omega⟩
  have hj : j < xs.length := by omega
  refine ⟨xs[j], ?_, List.getElem_mem hj⟩
  unfold atI
  rw [Evl.ixN_nat hj]
  simp [hj]
theorem t_cut {D : Ends} {σ : L2.St} {H : Hp} {ts us : TS} (Mid : L2.St → Hp → Prop) (h1 : ts { D with nx := Mid } σ H) (h2 : ∀ σ' H', Mid σ' H' → us D σ' H') : Evl.tCut ts us D σ H := ⟨Mid, h1, h2⟩
theorem mix_lt {b s k m c : Int} (b0 : 0 ≤ b) (b1 : b < 2147483648) (s0 : 0 ≤ s) (s1 : s ≤ 4000000) (k0 : 0 ≤ k) (k1 : k ≤ 1000) (m0 : 0 ≤ m) (m1 : m ≤ 100000) (c0 : 0 ≤ c) (c1 : c ≤ 1000) : (b * (2 * s + k) + m * s * s + c).natAbs < 2 ^ 64 := by
  have h1 : b * (2 * s + k) ≤ 2147483648 * 8001000 := Int.mul_le_mul (by omega) (by omega) (by omega) (by omega)
  have h2 : 0 ≤ b * (2 * s + k) := Int.mul_nonneg b0 (by omega)
  have h3 : m * s ≤ 100000 * 4000000 := Int.mul_le_mul m1 s1 s0 (by omega)
  have h4 : 0 ≤ m * s := Int.mul_nonneg m0 s0
  have h5 : m * s * s ≤ (100000 * 4000000) * 4000000 := Int.mul_le_mul h3 s1 s0 (by omega)
  have h6 : 0 ≤ m * s * s := Int.mul_nonneg h4 s0
  omega
theorem Go.set {p : Addr} {H : Hp} {o : HO} : Go p H (upd H p o) := fun b u n e => by rw [upd_ne n]; exact e
theorem if_int {b : Bool} {σ : L2.St} {H : Hp} {Q : VK} {ta tb : TE} {i j : Int} (h1 : ∀ Q : VK, Q (.int i) H → ta σ H Q) (h2 : ∀ Q : VK, Q (.int j) H → tb σ H Q) (h : Q (.int (if b = true then i else j)) H) : if b = true then ta σ H Q else tb σ H Q := by
  cases b with
  | true => exact h1 Q h
  | false => exact h2 Q h
/-! ### days -/
def DayAt (C : Addr) (H : Hp) (a : Addr) (L : Int) : Prop := (1 ≤ L ∧ L ≤ 1000000000000) ∧ ∃ dx, H a = some (.ins C dx [("length", .int L)])
theorem DayAt.same {C : Addr} {H H' : Hp} {a : Addr} {L : Int} (d : DayAt C H a L) (s : Same H H') : DayAt C H' a L := ⟨d.1, let ⟨dx, h⟩ := d.2; ⟨dx, s _ _ h⟩⟩
theorem DayAt.go {C p : Addr} {H H' : Hp} {a : Addr} {L : Int} {n : Nat} (d : DayAt C H a L) (P : Pen p H n) (g : Go p H H') : DayAt C H' a L := ⟨d.1, let ⟨dx, h⟩ := d.2; ⟨dx, ((P.ins h).go g).at_⟩⟩
theorem DayAt.new {C q : Addr} {H : Hp} {a : Addr} {L : Int} {o : HO} (d : DayAt C H a L) (h : H q = none) : DayAt C (upd H q o) a L := d.same (Same.new h)
def spLongBy : Sp := fun vs H Q _ => ∃ L k : Int, vs = [.int L, .int k] ∧ (1 ≤ L ∧ L ≤ 1000000000000) ∧ (1 ≤ k * L ∧ k * L ≤ 1000000000000) ∧ Q (.int (k * L)) H
def spDayInit (C : Addr) : Sp := fun vs H Q _ => ∃ (a dx : Addr) (L : Int), vs = [.ref a, .int L] ∧ (1 ≤ L ∧ L ≤ 1000000000000) ∧ H a = some (.ins C dx []) ∧ Q .non (upd H a (.ins C dx [("length", .int L)]))
def spRmod (C : Addr) : Sp := fun vs H Q _ => ∃ (a : Addr) (m L : Int), vs = [.ref a, .int m] ∧ DayAt C H a L ∧ m.natAbs < 10 ^ 60 ∧ Q (.int (m % L)) H
def spRfdiv (C : Addr) : Sp := fun vs H Q _ => ∃ (a : Addr) (m L : Int), vs = [.ref a, .int m] ∧ DayAt C H a L ∧ m.natAbs < 10 ^ 60 ∧ Q (.int (m / L)) H
def spForward (C : Addr) : Sp := fun vs H Q _ => ∃ (a : Addr) (m n L : Int), vs = [.ref a, .int m, .int n] ∧ DayAt C H a L ∧ m.natAbs < 10 ^ 60 ∧ n.natAbs < 10 ^ 60 ∧ ∀ H', Same H H' → Q (.int ((n - m) % L)) H'
def spDayMul (C : Addr) : Sp := fun vs H Q _ => ∃ (a : Addr) (k L : Int), vs = [.ref a, .int k] ∧ DayAt C H a L ∧ (1 ≤ k * L ∧ k * L ≤ 1000000000000) ∧ ∀ b H', Same H H' → H b = none → DayAt C H' b (k * L) → Q (.ref b) H'
def spDayEq (C : Addr) : Sp := fun vs H Q _ => ∃ (a b : Addr) (L M : Int), vs = [.ref a, .ref b] ∧ DayAt C H a L ∧ DayAt C H b M ∧ Q (.bl (decide (L = M))) H
theorem make_day {C : Addr} {H : Hp} {L : Int} {R : Addr → Hp → Prop} {E : XK} (hL : 1 ≤ L ∧ L ≤ 1000000000000) (h : ∀ b H', Same H H' → H b = none → DayAt C H' b L → R b H') :
    ∀ x dx, H x = none → H dx = none → dx ≠ x → spDayInit C [.ref x, .int L] (upd (upd H dx (.own x)) x (.ins C dx [])) (fun v H2 => v = .non ∧ R x H2) E := by
  intro x dx hx hd ne
  refine ⟨x, dx, L, rfl, hL, upd_same, rfl, h x _ (fun b o e => ?_) hx ⟨hL, dx, upd_same⟩⟩
  rw [upd_ne (ne_of_none e hx), upd_ne (ne_of_none e hx), upd_ne (ne_of_none e hd)]
  exact e
section
variable {K : PySem.W.Frag} {C a b : Addr} {H : Hp} {Q : VK} {E : XK} {L M m n k : Int} {R : Prop}
theorem notFirst_self : PySem.W.notFirst K C (.ref C) = true := by unfold PySem.W.notFirst; simp
theorem r_rmod (d : DayAt C H a L) (hm : m.natAbs < 10 ^ 60) (q : Q (.int (m % L)) H) : rRefl C (spRmod C) E (.int m) (.ref a) H Q := by
  obtain ⟨_, dx, h⟩ := id d
  exact ⟨m, a, dx, _, rfl, rfl, h, a, m, L, rfl, d, hm, q⟩
theorem r_rfdiv (d : DayAt C H a L) (hm : m.natAbs < 10 ^ 60) (q : Q (.int (m / L)) H) : rRefl C (spRfdiv C) E (.int m) (.ref a) H Q := by
  obtain ⟨_, dx, h⟩ := id d
  exact ⟨m, a, dx, _, rfl, rfl, h, a, m, L, rfl, d, hm, q⟩
theorem x_fwd (d : DayAt C H a L) (k : R) : ∃ a' dx fs, V.ref a = V.ref a' ∧ H a' = some (.ins C dx fs) ∧ fs.lookup ("forward" : Str) = none ∧ R := by
  obtain ⟨_, dx, h⟩ := id d
  exact ⟨a, dx, _, rfl, h, rfl, k⟩
theorem s_fwd (d : DayAt C H a L) (hm : m.natAbs < 10 ^ 60) (hn : n.natAbs < 10 ^ 60) (k : ∀ H', Same H H' → Q (.int ((n - m) % L)) H') : spForward C [.ref a, .int m, .int n] H Q E := ⟨a, m, n, L, rfl, d, hm, hn, k⟩
theorem r_dmul (d : DayAt C H a L) (hk : 1 ≤ k * L ∧ k * L ≤ 1000000000000) (q : ∀ b H', Same H H' → H b = none → DayAt C H' b (k * L) → Q (.ref b) H') : rOwnL K C "int" (spDayMul C) E (.ref a) (.int k) H Q := by
  obtain ⟨_, dx, h⟩ := id d
  exact ⟨a, dx, _, rfl, h, .base (.int k), a, k, L, rfl, d, hk, q⟩
theorem r_rdmul (d : DayAt C H a L) (hk : 1 ≤ k * L ∧ k * L ≤ 1000000000000) (q : ∀ b H', Same H H' → H b = none → DayAt C H' b (k * L) → Q (.ref b) H') : rRefl C (spDayMul C) E (.int k) (.ref a) H Q := by
  obtain ⟨_, dx, h⟩ := id d
  exact ⟨k, a, dx, _, rfl, rfl, h, a, k, L, rfl, d, hk, q⟩
theorem r_deq (I : IsC K C) (d : DayAt C H a L) (e : DayAt C H b M) (q : Q (.bl (decide (L = M))) H) : rCmpO K C (spDayEq C) E (.ref a) (.ref b) H Q := by
  obtain ⟨_, dx, h⟩ := id d
  obtain ⟨_, dy, h2⟩ := id e
  exact ⟨a, dx, _, _, rfl, h, I.ty h2, notFirst_self, a, b, L, M, rfl, d, e, q⟩
theorem r_dne (I : IsC K C) (d : DayAt C H a L) (e : DayAt C H b M) (q : Q (.bl (!decide (L = M))) H) : rNeO K C (spDayEq C) E (.ref a) (.ref b) H Q := by
  obtain ⟨_, dx, h⟩ := id d
  obtain ⟨_, dy, h2⟩ := id e
  exact ⟨a, dx, _, _, rfl, h, I.ty h2, notFirst_self, a, b, L, M, rfl, d, e, _, rfl, q⟩
theorem x_len (c : Cls K C) (n : NoAttr K C "length") (d : DayAt C H a L) {P : V → Prop} (q : P (.int L)) : ∃ a' C' dx fs v, V.ref a = V.ref a' ∧ H a' = some (.ins C' dx fs) ∧ Cls K C' ∧ NoAttr K C' "length" ∧ fs.lookup ("length" : Str) = some v ∧ P v := by
  obtain ⟨_, dx, h⟩ := id d
  exact ⟨a, C, dx, _, _, rfl, h, c, n, rfl, q⟩
end
end Ol

namespace Ol
theorem fwd_sum {a b L : Int} (hL : 0 < L) : (b - a) % L + (a - b) % L = if decide (a % L = b % L) = true then 0 else L := by
  have h1 := Int.emod_nonneg (b - a) (show L ≠ 0 by omega)
  have h2 := Int.emod_lt_of_pos (b - a) hL
  have h3 := Int.emod_nonneg (a - b) (show L ≠ 0 by omega)
  have h4 := Int.emod_lt_of_pos (a - b) hL
  have e : ((b - a) % L + (a - b) % L) % L = 0 := by
    rw [← Int.add_emod, show b - a + (a - b) = 0 by omega]
    exact Int.zero_emod L
  by_cases h : a % L = b % L
  · rw [decide_eq_true h, if_pos rfl]
    have e1 : (b - a) % L = 0 := by rw [Int.sub_emod, h, Int.sub_self, Int.zero_emod]
    have e2 : (a - b) % L = 0 := by rw [Int.sub_emod, h, Int.sub_self, Int.zero_emod]
    omega
  · rw [decide_eq_false h, if_neg (by decide)]
    have n1 : (b - a) % L ≠ 0 := fun z => h (by
      have : (b - a + a) % L = a % L := by rw [Int.add_emod, z, Int.zero_add, Int.emod_emod]
      rw [← this]; congr 1; omega)
    generalize (b - a) % L = x at *
    generalize (a - b) % L = y at *
    by_cases hxy : x + y < L
    · rw [Int.emod_eq_of_lt (by omega) hxy] at e; omega
    · have e3 : (x + y - L) % L = 0 := by rw [Int.sub_emod, e, Int.emod_self]; rfl
      rw [Int.emod_eq_of_lt (by omega) (by omega)] at e3; omega
theorem fwd_row {a b c L : Int} : ((b - a) % L + (c - b) % L) % L = (c - a) % L := by
  rw [← Int.add_emod]; congr 1; omega
theorem fwd_to {a b L : Int} : (a + (b - a) % L) % L = b % L := by
  rw [Int.add_emod, Int.emod_emod, ← Int.add_emod]; congr 1; omega
theorem day_more {a d L : Int} : (a + d * L) % L = a % L := Int.add_mul_emod_self_right ..
theorem day_count {a d L : Int} (hL : 0 < L) : (a + d * L) / L = a / L + d := Int.add_mul_ediv_right _ _ (by omega)
theorem fwd_days {a b d L : Int} : (b - d * L - (a + d * L)) % L = (b - a) % L := by
  have e : b - d * L - (a + d * L) = (b - a) + (-(2 * d)) * L := by
    rw [Int.neg_mul, Int.mul_assoc, ← Int.sub_eq_add_neg]; omega
  rw [e]; exact Int.add_mul_emod_self_right ..
theorem long_div {x k L : Int} (hL : 0 < L) (hk : 0 < k) : x / (k * L) = x / L / k := by
  rw [Int.mul_comm]; exact (Int.ediv_ediv_of_nonneg (by omega)).symm
theorem long_mod {x k L : Int} (hL : 0 < L) (hk : 0 < k) : x % (k * L) = x % L + L * (x / L - x / (k * L) * k) := by
  have e1 := Int.emod_add_mul_ediv x (k * L)
  have e2 := Int.emod_add_mul_ediv x L
  rw [Int.mul_sub]
  have e3 : L * (x / (k * L) * k) = k * L * (x / (k * L)) := by
    rw [Int.mul_comm (x / (k * L)) k, ← Int.mul_assoc, Int.mul_comm L k]
  omega
theorem wait_mod {d k L : Int} : d % (k * L) % L = d % L := Int.emod_emod_of_dvd _ ⟨k, Int.mul_comm k L⟩
theorem wait_ge {d k L : Int} (hL : 0 < L) (hk : 0 < k) : d % L ≤ d % (k * L) := by
  have h0 := Int.emod_nonneg d (show k * L ≠ 0 from Int.ne_of_gt (Int.mul_pos hk hL))
  rw [← wait_mod (d := d) (k := k) (L := L)]
  generalize d % (k * L) = y at *
  have := Int.emod_add_mul_ediv y L
  have h2 : 0 ≤ L * (y / L) := Int.mul_nonneg (by omega) (Int.ediv_nonneg h0 (by omega))
  omega
end Ol

namespace Ol
open PySem L2
local macro_rules | `(tactic| walk_at "s") => `(tactic| ((first | with_reducible exact True.intro | ((with_reducible refine' t_var ?hv ?_); (case hv => exact rfl)) | with_reducible refine t_c ?_ | with_reducible refine t_op ?_ | with_reducible refine t_cons ?_ | with_reducible refine t_nil ?_ | with_reducible refine t_cb ?_ | with_reducible refine t_call ?_ | with_reducible refine t_ret ?_ | with_reducible refine t_seq ?_ | with_reducible refine t_asg ?_ | with_reducible refine t_name ?_ | with_reducible refine t_ifS ?_ | with_reducible refine t_next ?_ | with_reducible refine t_B ?_ | with_reducible refine t_test ?_ | with_reducible refine t_and ?_ | with_reducible refine t_or ?_ | with_reducible refine t_not ?_ | with_reducible refine t_andV ?_ | with_reducible refine t_orV ?_ | with_reducible refine t_notV ?_ | with_reducible refine t_if ?_ | with_reducible refine t_chain ?_ | with_reducible refine t_un ?_ | with_reducible refine t_meth ?_ | with_reducible refine t_fld ?_ | with_reducible refine t_sfld ?_ | with_reducible refine t_par3 ?_ | with_reducible refine t_for1 ?_ | with_reducible refine t_forL ?_ | with_reducible refine t_forT ?_ | with_reducible refine c_abs ?_ | with_reducible refine t_make ?_ | with_reducible refine ex_par3 ?_ | with_reducible refine t_drop ?_ | with_reducible refine t_retN ?_ | with_reducible refine t_lst ?_ | with_reducible refine t_tup ?_ | with_reducible refine t_par ?_ | with_reducible refine ex_par ?_ | with_reducible refine t_sl ?_ | with_reducible refine t_part ?_ | with_reducible refine t_noPart ?_ | with_reducible refine t_sub ?_ | with_reducible refine ex_bl ?_ | with_reducible refine ex_int ?_ | with_reducible refine r_I0 ?_ | with_reducible refine r_U ?_ | with_reducible refine r_eqI ?_ | with_reducible refine r_neI ?_ | with_reducible refine r_eqB ?_ | with_reducible refine r_neB ?_ | ((with_reducible refine r_I ?hi ?_); (case hi => first | omega | decide | exact .inl ⟨by omega, by omega⟩ | exact .inr ⟨by omega, by omega⟩ | exact ⟨by omega, by omega, by omega⟩ | exact ⟨by decide, by decide⟩ | exact ⟨by decide, by decide, mix_lt (Int.emod_nonneg _ (by decide)) (Int.lt_of_lt_of_le (Int.emod_lt_of_pos _ (by decide)) (by decide)) (by omega) (by omega) (by decide) (by decide) (by decide) (by decide) (by decide) (by decide)⟩ | exact .inl ⟨Int.lt_of_lt_of_le (by decide) (Int.emod_nonneg _ (by decide)), Int.lt_trans (Int.emod_lt_of_pos _ (by decide)) (by decide)⟩)) | with_reducible refine c_int1 ?_ | with_reducible refine c_intB ?_ | with_reducible refine iteT ?_ | with_reducible refine iteF ?_ | with_reducible refine ite_n ?_ | ((with_reducible refine ite_y ?hc ?_); (case hc => first | omega | decide)) | ((with_reducible refine ite_f ?hc ?_); (case hc => first | omega | decide))); try dsimp only))

def top (i : Nat) : Stmt := PySem.Challenge.pw_onelongturn_k04_whole_days_that_come_rou.main.body.getD i (.Pass ⟨0, 0, 0, 0⟩)
abbrev s_is_integer : Stmt := top 1
abbrev s_is_between : Stmt := top 2
abbrev s_is_moment : Stmt := top 3
abbrev s_long_by : Stmt := top 11
abbrev s_Day_init : Stmt := inClass (top 12) 1
abbrev s_Day_rmod : Stmt := inClass (top 12) 2
abbrev s_Day_rfloordiv : Stmt := inClass (top 12) 3
abbrev s_Day_forward : Stmt := inClass (top 12) 4
abbrev s_Day_mul : Stmt := inClass (top 12) 5
abbrev s_Day_rmul : Stmt := inClass (top 12) 6
abbrev s_Day_eq : Stmt := inClass (top 12) 8
abbrev s_pen : Stmt := top 14
abbrev s_draw : Stmt := top 15
abbrev s_pick : Stmt := top 16
abbrev s_moment : Stmt := top 17
abbrev s_waits_right : Stmt := top 18
abbrev s_long_right : Stmt := top 19
abbrev s_law : Stmt := top 20
theorem sc_is_integer : FnScope ["value"] ["value"] (defScope s_is_integer) := ⟨rfl, rfl, rfl, by decide +kernel, rfl, by decide +kernel, by decide +kernel⟩
theorem sc_is_between : FnScope ["value", "low", "high"] ["value", "low", "high"] (defScope s_is_between) := ⟨rfl, rfl, rfl, by decide +kernel, rfl, by decide +kernel, by decide +kernel⟩
theorem sc_is_moment : FnScope ["value"] ["value"] (defScope s_is_moment) := ⟨rfl, rfl, rfl, by decide +kernel, rfl, by decide +kernel, by decide +kernel⟩
theorem sc_long_by : FnScope ["length", "k"] ["length", "k"] (defScope s_long_by) := ⟨rfl, rfl, rfl, by decide +kernel, rfl, by decide +kernel, by decide +kernel⟩
theorem sc_Day_init : FnScope ["self", "length"] ["self", "length"] (defScope s_Day_init) := ⟨rfl, rfl, rfl, by decide +kernel, rfl, by decide +kernel, by decide +kernel⟩
theorem sc_Day_rmod : FnScope ["self", "moment"] ["self", "moment"] (defScope s_Day_rmod) := ⟨rfl, rfl, rfl, by decide +kernel, rfl, by decide +kernel, by decide +kernel⟩
theorem sc_Day_rfloordiv : FnScope ["self", "moment"] ["self", "moment"] (defScope s_Day_rfloordiv) := ⟨rfl, rfl, rfl, by decide +kernel, rfl, by decide +kernel, by decide +kernel⟩
theorem sc_Day_forward : FnScope ["self", "a", "b", "moment"] ["self", "a", "b"] (defScope s_Day_forward) := ⟨rfl, rfl, rfl, by decide +kernel, rfl, by decide +kernel, by decide +kernel⟩
theorem sc_Day_mul : FnScope ["self", "k"] ["self", "k"] (defScope s_Day_mul) := ⟨rfl, rfl, rfl, by decide +kernel, rfl, by decide +kernel, by decide +kernel⟩
theorem sc_Day_rmul : FnScope ["self", "k"] ["self", "k"] (defScope s_Day_rmul) := ⟨rfl, rfl, rfl, by decide +kernel, rfl, by decide +kernel, by decide +kernel⟩
theorem sc_Day_eq : FnScope ["self", "other"] ["self", "other"] (defScope s_Day_eq) := ⟨rfl, rfl, rfl, by decide +kernel, rfl, by decide +kernel, by decide +kernel⟩
theorem sc_pen : FnScope ["_law_script"] ["_law_script"] (defScope s_pen) := ⟨rfl, rfl, rfl, by decide +kernel, rfl, by decide +kernel, by decide +kernel⟩
theorem sc_draw : FnScope ["_law_pen_here", "_law_many", "_law_spot", "_law_cell", "_law_blent", "_law_digit", "_law_great"] ["_law_pen_here", "_law_many"] (defScope s_draw) := ⟨rfl, rfl, rfl, by decide +kernel, rfl, by decide +kernel, by decide +kernel⟩
theorem sc_pick : FnScope ["_law_pen_here", "_law_some"] ["_law_pen_here", "_law_some"] (defScope s_pick) := ⟨rfl, rfl, rfl, by decide +kernel, rfl, by decide +kernel, by decide +kernel⟩
theorem sc_moment : FnScope ["_law_pen_here", "_law_size", "_law_found"] ["_law_pen_here", "_law_size"] (defScope s_moment) := ⟨rfl, rfl, rfl, by decide +kernel, rfl, by decide +kernel, by decide +kernel⟩
theorem sc_waits_right : FnScope ["_law_pen_here", "_law_day", "_law_size", "_law_days", "_law_a", "_law_b", "_law_c", "_law_there", "_law_back"] ["_law_pen_here", "_law_day", "_law_size"] (defScope s_waits_right) := ⟨rfl, rfl, rfl, by decide +kernel, rfl, by decide +kernel, by decide +kernel⟩
theorem sc_long_right : FnScope ["_law_pen_here", "_law_day", "_law_size", "_law_many", "_law_long", "_law_turn", "_law_x", "_law_y", "_law_wait"] ["_law_pen_here", "_law_day", "_law_size", "_law_many"] (defScope s_long_right) := ⟨rfl, rfl, rfl, by decide +kernel, rfl, by decide +kernel, by decide +kernel⟩
theorem sc_law : FnScope ["_law_script", "_law_pen_here", "_law_turn", "_law_size", "_law_many", "_law_some"] ["_law_script"] (defScope s_law) := ⟨rfl, rfl, rfl, by decide +kernel, rfl, by decide +kernel, by decide +kernel⟩
theorem bt_abs : bootBuiltins "abs" = some (.builtin "abs") := by decide +kernel
theorem bt_bool : bootBuiltins "bool" = some (.type "bool") := by decide +kernel
theorem bt_int : bootBuiltins "int" = some (.type "int") := by decide +kernel
theorem bt_isinstance : bootBuiltins "isinstance" = some (.builtin "isinstance") := by decide +kernel
theorem bt_len : bootBuiltins "len" = some (.builtin "len") := by decide +kernel
theorem bt_list : bootBuiltins "list" = some (.type "list") := by decide +kernel
theorem bt_range : bootBuiltins "range" = some (.type "range") := by decide +kernel
structure Ad where
  Day : Addr
  is_integer : Addr
  is_between : Addr
  is_moment : Addr
  long_by : Addr
  Day_init : Addr
  Day_rmod : Addr
  Day_rfloordiv : Addr
  Day_forward : Addr
  Day_mul : Addr
  Day_rmul : Addr
  Day_eq : Addr
  pen : Addr
  draw : Addr
  pick : Addr
  moment : Addr
  waits_right : Addr
  long_right : Addr
  law : Addr
structure Fd where
  is_integer : FuncData
  is_between : FuncData
  is_moment : FuncData
  long_by : FuncData
  Day_init : FuncData
  Day_rmod : FuncData
  Day_rfloordiv : FuncData
  Day_forward : FuncData
  Day_mul : FuncData
  Day_rmul : FuncData
  Day_eq : FuncData
  pen : FuncData
  draw : FuncData
  pick : FuncData
  moment : FuncData
  waits_right : FuncData
  long_right : FuncData
  law : FuncData
structure Txt (K : PySem.W.Frag) (mg : Str → Option Value) (A : Ad) (D : Fd) : Prop where
  m_is_integer : mg "is_integer" = some (.ref A.is_integer)
  f_is_integer : Fun K "is_integer" "is_integer" s_is_integer A.is_integer D.is_integer
  b_is_integer : Binds K D.is_integer ["value"] []
  m_is_between : mg "is_between" = some (.ref A.is_between)
  f_is_between : Fun K "is_between" "is_between" s_is_between A.is_between D.is_between
  b_is_between : Binds K D.is_between ["value", "low", "high"] []
  m_is_moment : mg "is_moment" = some (.ref A.is_moment)
  f_is_moment : Fun K "is_moment" "is_moment" s_is_moment A.is_moment D.is_moment
  b_is_moment : Binds K D.is_moment ["value"] []
  m_long_by : mg "long_by" = some (.ref A.long_by)
  f_long_by : Fun K "long_by" "long_by" s_long_by A.long_by D.long_by
  b_long_by : Binds K D.long_by ["length", "k"] []
  f_Day_init : Fun K "__init__" "Day.__init__" s_Day_init A.Day_init D.Day_init
  b_Day_init : Binds K D.Day_init ["self", "length"] []
  f_Day_rmod : Fun K "__rmod__" "Day.__rmod__" s_Day_rmod A.Day_rmod D.Day_rmod
  b_Day_rmod : Binds K D.Day_rmod ["self", "moment"] []
  f_Day_rfloordiv : Fun K "__rfloordiv__" "Day.__rfloordiv__" s_Day_rfloordiv A.Day_rfloordiv D.Day_rfloordiv
  b_Day_rfloordiv : Binds K D.Day_rfloordiv ["self", "moment"] []
  f_Day_forward : Fun K "forward" "Day.forward" s_Day_forward A.Day_forward D.Day_forward
  b_Day_forward : Binds K D.Day_forward ["self", "a", "b"] []
  f_Day_mul : Fun K "__mul__" "Day.__mul__" s_Day_mul A.Day_mul D.Day_mul
  b_Day_mul : Binds K D.Day_mul ["self", "k"] []
  f_Day_rmul : Fun K "__rmul__" "Day.__rmul__" s_Day_rmul A.Day_rmul D.Day_rmul
  b_Day_rmul : Binds K D.Day_rmul ["self", "k"] []
  f_Day_eq : Fun K "__eq__" "Day.__eq__" s_Day_eq A.Day_eq D.Day_eq
  b_Day_eq : Binds K D.Day_eq ["self", "other"] []
  m_pen : mg "_law_pen" = some (.ref A.pen)
  f_pen : Fun K "_law_pen" "_law_pen" s_pen A.pen D.pen
  b_pen : Binds K D.pen ["_law_script"] []
  m_draw : mg "_law_draw" = some (.ref A.draw)
  f_draw : Fun K "_law_draw" "_law_draw" s_draw A.draw D.draw
  b_draw : Binds K D.draw ["_law_pen_here", "_law_many"] []
  m_pick : mg "_law_pick" = some (.ref A.pick)
  f_pick : Fun K "_law_pick" "_law_pick" s_pick A.pick D.pick
  b_pick : Binds K D.pick ["_law_pen_here", "_law_some"] []
  m_moment : mg "_law_moment" = some (.ref A.moment)
  f_moment : Fun K "_law_moment" "_law_moment" s_moment A.moment D.moment
  b_moment : Binds K D.moment ["_law_pen_here", "_law_size"] []
  m_waits_right : mg "_law_waits_right" = some (.ref A.waits_right)
  f_waits_right : Fun K "_law_waits_right" "_law_waits_right" s_waits_right A.waits_right D.waits_right
  b_waits_right : Binds K D.waits_right ["_law_pen_here", "_law_day", "_law_size"] []
  m_long_right : mg "_law_long_right" = some (.ref A.long_right)
  f_long_right : Fun K "_law_long_right" "_law_long_right" s_long_right A.long_right D.long_right
  b_long_right : Binds K D.long_right ["_law_pen_here", "_law_day", "_law_size", "_law_many"] []
  m_law : mg "law" = some (.ref A.law)
  f_law : Fun K "law" "law" s_law A.law D.law
  b_law : Binds K D.law ["_law_script"] []
  m_Day : mg "Day" = some (.ref A.Day)
  cl_Day : Cls K A.Day
  mk_Day : Mk K A.Day A.Day_init
  na_Day_length : NoAttr K A.Day "length"
  me_Day_rmod : Meth K A.Day "__rmod__" A.Day_rmod
  me_Day_rfloordiv : Meth K A.Day "__rfloordiv__" A.Day_rfloordiv
  me_Day_forward : Meth K A.Day "forward" A.Day_forward
  me_Day_mul : Meth K A.Day "__mul__" A.Day_mul
  me_Day_rmul : Meth K A.Day "__rmul__" A.Day_rmul
  me_Day_eq : Meth K A.Day "__eq__" A.Day_eq
  re_Day_FloorDiv : ReflOf K A.Day .FloorDiv A.Day_rfloordiv
  re_Day_Mod : ReflOf K A.Day .Mod A.Day_rmod
  re_Day_Mult : ReflOf K A.Day .Mult A.Day_rmul
  ow_Day_Mult_int : OwnOf K A.Day .Mult "int" A.Day_mul
  co_Day_Eq : CmpOf K A.Day .Eq A.Day_eq
  ne_Day : NeOf K A.Day A.Day_eq
  is_Day : IsC K A.Day
  g_MOST_LENGTH : ∃ t, mg "MOST_LENGTH" = some (Value.int 1000000000000 t)
  n_abs : mg "abs" = none
  n_bool : mg "bool" = none
  n_int : mg "int" = none
  n_isinstance : mg "isinstance" = none
  n_len : mg "len" = none
  n_list : mg "list" = none
  n_range : mg "range" = none
section
variable {P : Program} {w : World} {K : PySem.W.Frag} {mg : Str → Option Value} {base : Heap} {A : Ad} {D : Fd}
theorem ok_is_integer (T : Txt K mg A D) : FnOk P w K mg base CX0 1 A.is_integer D.is_integer ["value"] (spIsInt K) := by
  refine T.f_is_integer.ok sc_is_integer (fun vs H Q E h => ?_) (fun cdv Ar outer s H vs Q E hr h => ?_)
  · obtain ⟨x, rfl, _⟩ := h
    rfl
  · obtain ⟨x, rfl, h⟩ := h
    refine ⟨_, (pss_one (ps_ret (pe_and (pe_callB call_isi rfl T.n_isinstance bt_isinstance (pa_cons (pv 0) (pa_cons (pe_bltn (v := .ty "int") rfl T.n_int bt_int rfl) pa_nil))) (pe_one (pe_not (pe_callB call_isi rfl T.n_isinstance bt_isinstance (pa_cons (pv 0) (pa_cons (pe_bltn (v := .ty "bool") rfl T.n_bool bt_bool rfl) pa_nil)))))))), ?_⟩
    rcases h with ⟨i, rfl, q⟩ | ⟨⟨t, b, ty, k1, k2⟩, q⟩
    · repeat walk_at "s"
      refine ⟨_, _, _, _, _, rfl, .ty _, .base (.int i), kit_int_int, ?_⟩
      repeat walk_at "s"
      refine ⟨_, _, _, _, _, rfl, .ty _, .base (.int i), kit_int_bool, ?_⟩
      repeat walk_at "s"
      exact q
    · repeat walk_at "s"
      refine ⟨_, _, _, _, _, rfl, .ty _, ty, k1, ?_⟩
      repeat walk_at "s"
      cases b with
      | false =>
        repeat walk_at "s"
        exact q
      | true =>
        repeat walk_at "s"
        refine ⟨_, _, _, _, _, rfl, .ty _, ty, k2 rfl, ?_⟩
        repeat walk_at "s"
        exact q
theorem ok_is_between (T : Txt K mg A D) : FnOk P w K mg base CX0 2 A.is_between D.is_between ["value", "low", "high"] (spBetween K) := by
  refine T.f_is_between.ok sc_is_between (fun vs H Q E h => ?_) (fun cdv Ar outer s H vs Q E hr h => ?_)
  · obtain ⟨x, lo, hi, rfl, _⟩ := h
    rfl
  · obtain ⟨x, lo, hi, rfl, h⟩ := h
    refine ⟨_, (pss_one (ps_ret (pe_and (pe_call (ok_is_integer T) (hr.mono (by decide)) rfl T.m_is_integer T.f_is_integer.kp T.b_is_integer .nil pass0 (pa_cons (pv 0) pa_nil)) (pe_one (pe_chain op_le op_le (pv 1) (pv 0) (pv 2)))))), ?_⟩
    rcases h with ⟨i, rfl, q⟩ | ⟨ni, q⟩
    · repeat walk_at "s"
      refine ⟨_, rfl, .inl ⟨i, rfl, ?_⟩⟩
      repeat walk_at "s"
      refine ite_d (fun h1 => ?_) fun h1 => ?_
      · repeat walk_at "s"
        by_cases h2 : i ≤ hi
        · rw [decide_eq_true (⟨h1, h2⟩ : lo ≤ i ∧ i ≤ hi)] at q
          rw [decide_eq_true h2]
          exact q
        · rw [decide_eq_false fun z : lo ≤ i ∧ i ≤ hi => h2 z.2] at q
          rw [decide_eq_false h2]
          exact q
      · rw [decide_eq_false fun z : lo ≤ i ∧ i ≤ hi => h1 z.1] at q
        exact q
    · repeat walk_at "s"
      refine ⟨_, rfl, .inr ⟨ni, ?_⟩⟩
      repeat walk_at "s"
      exact q
theorem ok_is_moment (T : Txt K mg A D) : FnOk P w K mg base CX0 2 A.is_moment D.is_moment ["value"] (spMoment K) := by
  refine T.f_is_moment.ok sc_is_moment (fun vs H Q E h => ?_) (fun cdv Ar outer s H vs Q E hr h => ?_)
  · obtain ⟨x, rfl, _⟩ := h
    rfl
  · obtain ⟨x, rfl, h⟩ := h
    refine ⟨_, (pss_one (ps_ret (pe_and (pe_call (ok_is_integer T) (hr.mono (by decide)) rfl T.m_is_integer T.f_is_integer.kp T.b_is_integer .nil pass0 (pa_cons (pv 0) pa_nil)) (pe_one (pe_cmpR op_lt (pe_callB call_abs rfl T.n_abs bt_abs (pa_cons (pv 0) pa_nil)) (pe_op op_pow pe_int pe_int) (nomark _)))))), ?_⟩
    rcases h with ⟨i, rfl, q⟩ | ⟨ni, q⟩
    · repeat walk_at "s"
      refine ⟨_, rfl, .inl ⟨i, rfl, ?_⟩⟩
      repeat walk_at "s"
      rw [abs_lt60]
      exact q
    · repeat walk_at "s"
      refine ⟨_, rfl, .inr ⟨ni, ?_⟩⟩
      repeat walk_at "s"
      exact q
theorem ok_long_by (T : Txt K mg A D) : FnOk P w K mg base CX0 3 A.long_by D.long_by ["length", "k"] spLongBy := by
  refine T.f_long_by.ok sc_long_by (fun vs H Q E h => ?_) (fun cdv Ar outer s H vs Q E hr h => ?_)
  · obtain ⟨L, k, rfl, _⟩ := h
    rfl
  · obtain ⟨L, k, rfl, hL, hk, q⟩ := h
    refine ⟨_, (pss_cons (ps_if (PW.pt (pw_or (pt_not (pt_val (pe_call (ok_is_integer T) (hr.mono (by decide)) rfl T.m_is_integer T.f_is_integer.kp T.b_is_integer .nil pass0 (pa_cons (pv 1) pa_nil)))) (pw_or1 (pt_not (pt_val (pe_call (ok_is_between T) (hr.mono (by decide)) rfl T.m_is_between T.f_is_between.kp T.b_is_between .nil pass0 (pa_cons (pe_op op_mul (pe_callTy call_int1 rfl T.n_int bt_int (pa_cons (pv 1) pa_nil)) (pv 0)) (pa_cons pe_int (pa_cons (pe_gi rfl T.g_MOST_LENGTH) pa_nil))))))))) (pss_one ps_never) pss_nil) (pss_one (ps_ret (pe_op op_mul (pe_callTy call_int1 rfl T.n_int bt_int (pa_cons (pv 1) pa_nil)) (pv 0))))), ?_⟩
    repeat walk_at "s"
    refine ⟨_, rfl, .inl ⟨k, rfl, ?_⟩⟩
    repeat walk_at "s"
    refine ⟨_, _, _, rfl, .inl ⟨k * L, rfl, ?_⟩⟩
    repeat walk_at "s"
    exact q
theorem ok_Day_init (T : Txt K mg A D) : FnOk P w K mg base CX0 3 A.Day_init D.Day_init ["self", "length"] (spDayInit A.Day) := by
  refine T.f_Day_init.ok sc_Day_init (fun vs H Q E h => ?_) (fun cdv Ar outer s H vs Q E hr h => ?_)
  · obtain ⟨a, dx, L, rfl, _⟩ := h
    rfl
  · obtain ⟨a, dx, L, rfl, hL, ha, q⟩ := h
    refine ⟨_, (pss_cons (ps_if (pt_not (pt_val (pe_call (ok_is_between T) (hr.mono (by decide)) rfl T.m_is_between T.f_is_between.kp T.b_is_between .nil pass0 (pa_cons (pv 1) (pa_cons pe_int (pa_cons (pe_gi rfl T.g_MOST_LENGTH) pa_nil)))))) (pss_one ps_never) pss_nil) (pss_one (ps_fld (pv 0) (pv 1) rfl))), ?_⟩
    repeat walk_at "s"
    refine ⟨_, _, _, rfl, .inl ⟨L, rfl, ?_⟩⟩
    repeat walk_at "s"
    exact ⟨a, A.Day, dx, _, rfl, ha, T.cl_Day, T.na_Day_length, by decide, q⟩
theorem ok_Day_rmod (T : Txt K mg A D) : FnOk P w K mg base CX0 3 A.Day_rmod D.Day_rmod ["self", "moment"] (spRmod A.Day) := by
  refine T.f_Day_rmod.ok sc_Day_rmod (fun vs H Q E h => ?_) (fun cdv Ar outer s H vs Q E hr h => ?_)
  · obtain ⟨a, m, L, rfl, _⟩ := h
    rfl
  · obtain ⟨a, m, L, rfl, ⟨hL, dx, ha⟩, hm, q⟩ := h
    refine ⟨_, (pss_cons (ps_if (pt_not (pt_val (pe_call (ok_is_moment T) (hr.mono (by decide)) rfl T.m_is_moment T.f_is_moment.kp T.b_is_moment .nil pass0 (pa_cons (pv 1) pa_nil)))) (pss_one ps_never) pss_nil) (pss_one (ps_ret (pe_op op_mod (pv 1) (pe_fld (pv 0) rfl))))), ?_⟩
    repeat walk_at "s"
    refine ⟨_, rfl, .inl ⟨m, rfl, ?_⟩⟩
    repeat walk_at "s"
    refine ⟨a, A.Day, dx, _, _, rfl, ha, T.cl_Day, T.na_Day_length, rfl, ?_⟩
    repeat walk_at "s"
    exact q
theorem ok_Day_rfloordiv (T : Txt K mg A D) : FnOk P w K mg base CX0 3 A.Day_rfloordiv D.Day_rfloordiv ["self", "moment"] (spRfdiv A.Day) := by
  refine T.f_Day_rfloordiv.ok sc_Day_rfloordiv (fun vs H Q E h => ?_) (fun cdv Ar outer s H vs Q E hr h => ?_)
  · obtain ⟨a, m, L, rfl, _⟩ := h
    rfl
  · obtain ⟨a, m, L, rfl, ⟨hL, dx, ha⟩, hm, q⟩ := h
    refine ⟨_, (pss_cons (ps_if (pt_not (pt_val (pe_call (ok_is_moment T) (hr.mono (by decide)) rfl T.m_is_moment T.f_is_moment.kp T.b_is_moment .nil pass0 (pa_cons (pv 1) pa_nil)))) (pss_one ps_never) pss_nil) (pss_one (ps_ret (pe_op op_fdivW (pv 1) (pe_fld (pv 0) rfl))))), ?_⟩
    repeat walk_at "s"
    refine ⟨_, rfl, .inl ⟨m, rfl, ?_⟩⟩
    repeat walk_at "s"
    refine ⟨a, A.Day, dx, _, _, rfl, ha, T.cl_Day, T.na_Day_length, rfl, ?_⟩
    repeat walk_at "s"
    refine r_I (wide_div (b := 41) (by omega) (by omega) (by decide) (by decide)) ?_
    exact q
theorem ok_Day_forward (T : Txt K mg A D) : FnOk P w K mg base CX0 3 A.Day_forward D.Day_forward ["self", "a", "b"] (spForward A.Day) := by
  refine T.f_Day_forward.ok sc_Day_forward (fun vs H Q E h => ?_) (fun cdv Ar outer s H vs Q E hr h => ?_)
  · obtain ⟨a, m, n, L, rfl, _⟩ := h
    rfl
  · obtain ⟨a, m, n, L, rfl, ⟨hL, dx, ha⟩, hm, hn, q⟩ := h
    refine ⟨_, (pss_cons (ps_for PassesOwn.never rfl (pi_tup (pe_tup (pa_cons (pv 1) (pa_cons (pv 2) pa_nil)))) (pg_name (i := 3) sc_Day_forward.nd rfl (Or.inl rfl)) (pss_one (ps_if (pt_not (pt_val (pe_call (ok_is_moment T) (hr.mono (by decide)) rfl T.m_is_moment T.f_is_moment.kp T.b_is_moment .nil pass0 (pa_cons (pv 3) pa_nil)))) (pss_one ps_never) pss_nil))) (pss_one (ps_ret (pe_op op_mod (pe_op op_sub (pv 2) (pv 1)) (pe_fld (pv 0) rfl))))), ?_⟩
    repeat walk_at "s"
    refine ⟨lst_ok rfl, fun p hp => ?_⟩
    have S := Same.new (o := .tup [.int m, .int n]) hp
    refine ex_tup (xs := [.int m, .int n]) (.inl (.inl upd_same)) (fun i σ' H' => H' = upd H p (.tup [.int m, .int n]) ∧ ∃ v, σ' = [some (.ref a), some (.int m), some (.int n), v]) ⟨rfl, _, rfl⟩ ?_ ?_ ?_
    · rintro i σ' H' _ ⟨rfl, _⟩
      exact .inl (.inl upd_same)
    · rintro i x σ' H' hx ⟨rfl, v, rfl⟩
      have hx2 : ∃ k, x = V.int k ∧ k.natAbs < 10 ^ 60 := by
        match i, hx with
        | 0, hx => exact ⟨m, by simpa using hx.symm, hm⟩
        | 1, hx => exact ⟨n, by simpa using hx.symm, hn⟩
      obtain ⟨k, rfl, hk⟩ := hx2
      repeat walk_at "s"
      refine ⟨_, rfl, .inl ⟨k, rfl, ?_⟩⟩
      repeat walk_at "s"
      exact ⟨rfl, _, rfl⟩
    · rintro σ' H' ⟨rfl, v, rfl⟩
      repeat walk_at "s"
      refine ⟨a, A.Day, dx, _, _, rfl, S _ _ ha, T.cl_Day, T.na_Day_length, rfl, ?_⟩
      repeat walk_at "s"
      exact q _ S
theorem ok_Day_mul (T : Txt K mg A D) : FnOk P w K mg base CX0 5 A.Day_mul D.Day_mul ["self", "k"] (spDayMul A.Day) := by
  refine T.f_Day_mul.ok sc_Day_mul (fun vs H Q E h => ?_) (fun cdv Ar outer s H vs Q E hr h => ?_)
  · obtain ⟨a, k, L, rfl, _⟩ := h
    rfl
  · obtain ⟨a, k, L, rfl, ⟨hL, dx, ha⟩, hk, q⟩ := h
    refine ⟨_, (pss_one (ps_ret (pe_make T.mk_Day (ok_Day_init T) (hr.mono (by decide)) rfl T.m_Day T.b_Day_init .nil pass0 (pa_cons (pe_call (ok_long_by T) (hr.mono (by decide)) rfl T.m_long_by T.f_long_by.kp T.b_long_by .nil pass0 (pa_cons (pe_fld (pv 0) rfl) (pa_cons (pv 1) pa_nil))) pa_nil)))), ?_⟩
    repeat walk_at "s"
    refine ⟨a, A.Day, dx, _, _, rfl, ha, T.cl_Day, T.na_Day_length, rfl, ?_⟩
    repeat walk_at "s"
    refine ⟨L, k, rfl, hL, hk, ?_⟩
    repeat walk_at "s"
    exact make_day hk q
theorem ok_Day_rmul (T : Txt K mg A D) : FnOk P w K mg base CX0 5 A.Day_rmul D.Day_rmul ["self", "k"] (spDayMul A.Day) := by
  refine T.f_Day_rmul.ok sc_Day_rmul (fun vs H Q E h => ?_) (fun cdv Ar outer s H vs Q E hr h => ?_)
  · obtain ⟨a, k, L, rfl, _⟩ := h
    rfl
  · obtain ⟨a, k, L, rfl, ⟨hL, dx, ha⟩, hk, q⟩ := h
    refine ⟨_, (pss_one (ps_ret (pe_make T.mk_Day (ok_Day_init T) (hr.mono (by decide)) rfl T.m_Day T.b_Day_init .nil pass0 (pa_cons (pe_call (ok_long_by T) (hr.mono (by decide)) rfl T.m_long_by T.f_long_by.kp T.b_long_by .nil pass0 (pa_cons (pe_fld (pv 0) rfl) (pa_cons (pv 1) pa_nil))) pa_nil)))), ?_⟩
    repeat walk_at "s"
    refine ⟨a, A.Day, dx, _, _, rfl, ha, T.cl_Day, T.na_Day_length, rfl, ?_⟩
    repeat walk_at "s"
    refine ⟨L, k, rfl, hL, hk, ?_⟩
    repeat walk_at "s"
    exact make_day hk q
theorem ok_Day_eq (T : Txt K mg A D) : FnOk P w K mg base CX0 1 A.Day_eq D.Day_eq ["self", "other"] (spDayEq A.Day) := by
  refine T.f_Day_eq.ok sc_Day_eq (fun vs H Q E h => ?_) (fun cdv Ar outer s H vs Q E hr h => ?_)
  · obtain ⟨a, b, L, M, rfl, _⟩ := h
    rfl
  · obtain ⟨a, b, L, M, rfl, ⟨hL, dx, ha⟩, ⟨hM, dy, hb⟩, q⟩ := h
    refine ⟨_, (pss_one (ps_ret (pe_and (pe_callB call_isi rfl T.n_isinstance bt_isinstance (pa_cons (pv 1) (pa_cons (pe_glob (v := .ref A.Day) rfl T.m_Day rfl) pa_nil))) (pe_one (pe_cmpR op_eq (pe_fld (pv 0) rfl) (pe_fld (pv 1) rfl) (nomark _)))))), ?_⟩
    repeat walk_at "s"
    refine ⟨_, _, _, _, _, rfl, .own A.Day, T.is_Day.ty hb, kit_self, ?_⟩
    repeat walk_at "s"
    refine ⟨a, A.Day, dx, _, _, rfl, ha, T.cl_Day, T.na_Day_length, rfl, ?_⟩
    repeat walk_at "s"
    refine ⟨b, A.Day, dy, _, _, rfl, hb, T.cl_Day, T.na_Day_length, rfl, ?_⟩
    repeat walk_at "s"
    exact q
theorem ok_pen (T : Txt K mg A D) : FnOk P w K mg base CX0 1 A.pen D.pen ["_law_script"] (spPen K) := by
  refine T.f_pen.ok sc_pen (fun vs H Q E h => ?_) (fun cdv Ar outer s H vs Q E hr h => ?_)
  · obtain ⟨a, ns, rfl, _⟩ := h
    rfl
  · obtain ⟨a, ns, rfl, hS, hn, q⟩ := h
    refine ⟨_, (pss_one (ps_ret (pe_lst (pa_cons (pe_callTy call_list_of rfl T.n_list bt_list (pa_cons (pe_slice sl_list (pv 0) po_none (po_some pe_int)) pa_nil)) (pa_cons pe_int (pa_cons pe_int pa_nil)))))), ?_⟩
    repeat walk_at "s"
    refine ⟨a, _, rfl, hS, fun l hl => ?_⟩
    repeat walk_at "s"
    refine ⟨l, _, rfl, .inl (.inl (.inl upd_same)), fun m hm => ?_⟩
    repeat walk_at "s"
    refine ⟨lst_ok rfl, fun p hp => ?_⟩
    have hl2 : H m = none := (Same.new hl).free hm
    have hp2 := (Same.new hm).free hp
    rw [cut63 hn] at hm hp hp2 ⊢
    have S1 := Same.new (o := .lst (ns.map V.int)) hl
    have S2 := Same.new (o := .lst (ns.map V.int)) hm
    have S3 := Same.new (o := .lst [.ref m, .int 0, .int 0]) hp
    exact q p _ ((S1.trans S2).trans S3) (S1.free hp2) ⟨m, ns, 0, 0, upd_same, ne_of_none upd_same hp, S3 _ _ upd_same, by decide, by decide, by decide, hn⟩
theorem ok_draw (T : Txt K mg A D) : FnOk P w K mg base CX0 1 A.draw D.draw ["_law_pen_here", "_law_many"] spDraw := by
  refine T.f_draw.ok sc_draw (fun vs H Q E h => ?_) (fun cdv Ar outer s H vs Q E hr h => ?_)
  · obtain ⟨p, many, n, rfl, _⟩ := h
    rfl
  · obtain ⟨p, many, n, rfl, h0, h1, ⟨l, cells, spot, great, hp, ne, hl, s0, s1, g0, c0⟩, q⟩ := h
    refine ⟨_, (pss_cons (ps_if (pt_cmpR op_gt (pe_ix ix_list (pv 0) pe_int (fun _ _ => rfl)) pe_int (nomark _)) (pss_cons (ps_set (i := 5) sc_draw.nd rfl (Or.inl rfl) (pe_op op_mod (pe_callTy call_int1 rfl T.n_int bt_int (pa_cons (pe_ix ix_list (pv 0) pe_int (fun _ _ => rfl)) pa_nil)) (pv 1))) (pss_cons (ps_asg (pe_op op_fdivW (pe_callTy call_int1 rfl T.n_int bt_int (pa_cons (pe_ix ix_list (pv 0) pe_int (fun _ _ => rfl)) pa_nil)) (pv 1)) (pg_sub (pv 0) pe_int set_list)) (pss_one (ps_ret (pv 5))))) pss_nil) (pss_cons (ps_set (i := 2) sc_draw.nd rfl (Or.inl rfl) (pe_ix ix_list (pv 0) pe_int (fun _ _ => rfl))) (pss_cons (ps_asg (pe_op op_add (pv 2) pe_int) (pg_sub (pv 0) pe_int set_list)) (pss_cons (ps_set (i := 3) sc_draw.nd rfl (Or.inl rfl) (pe_op op_add (pe_op op_mul pe_int (pv 2)) pe_int)) (Evl.pss_cut (ps_if (pt_cmpR (op_neD hr.units) (pe_ix ix_list (pv 0) pe_int (fun _ _ => rfl)) (pe_lst pa_nil) (nomark _)) (pss_one (ps_set (i := 3) sc_draw.nd rfl (Or.inl rfl) (pe_ix ix_list (pe_ix ix_list (pv 0) pe_int (fun _ _ => rfl)) (pe_op op_mod (pe_callTy call_int1 rfl T.n_int bt_int (pa_cons (pv 2) pa_nil)) (pe_callB call_len_seq rfl T.n_len bt_len (pa_cons (pe_ix ix_list (pv 0) pe_int (fun _ _ => rfl)) pa_nil))) (fun _ _ => rfl)))) pss_nil) (pss_cons (ps_if (PW.pt (pw_and (pt_cmpR op_lt (pv 2) (pe_callB call_len_seq rfl T.n_len bt_len (pa_cons (pe_ix ix_list (pv 0) pe_int (fun _ _ => rfl)) pa_nil)) (nomark _)) (pw_and1 (pt_cmpR op_ge (pe_callB call_abs rfl T.n_abs bt_abs (pa_cons (pv 3) pa_nil)) (pe_op op_pow pe_int pe_int) (nomark _))))) (pss_cons (ps_set (i := 6) sc_draw.nd rfl (Or.inl rfl) (pe_op op_add (pe_op op_mul pe_int (pe_op op_sub (pe_callB call_abs rfl T.n_abs bt_abs (pa_cons (pv 3) pa_nil)) (pe_op op_pow pe_int pe_int))) (pe_callTy call_int1 rfl T.n_int bt_int (pa_cons (pe_cmpR op_lt (pv 3) pe_int (nomark _)) pa_nil)))) (pss_cons (ps_asg (pe_op op_fdivW (pe_callTy call_int1 rfl T.n_int bt_int (pa_cons (pv 6) pa_nil)) (pv 1)) (pg_sub (pv 0) pe_int set_list)) (pss_one (ps_ret (pe_op op_mod (pe_callTy call_int1 rfl T.n_int bt_int (pa_cons (pv 6) pa_nil)) (pv 1)))))) pss_nil) (pss_cons (ps_set (i := 4) sc_draw.nd rfl (Or.inl rfl) (pe_op op_mod (pe_callTy call_int1 rfl T.n_int bt_int (pa_cons (pe_op op_pow (pe_op op_add (pe_op op_add (pe_op op_mod (pe_callTy call_int1 rfl T.n_int bt_int (pa_cons (pv 3) pa_nil)) pe_int) (pe_op op_mul pe_int (pv 2))) pe_int) pe_int) pa_nil)) pe_int)) (pss_cons (ps_set (i := 4) sc_draw.nd rfl (Or.inl rfl) (pe_op op_mod (pe_callTy call_int1 rfl T.n_int bt_int (pa_cons (pe_op op_pow (pe_op op_add (pe_op op_add (pe_op op_mul (pv 4) (pe_op op_add (pe_op op_mul pe_int (pv 2)) pe_int)) (pe_op op_mul (pe_op op_mul pe_int (pv 2)) (pv 2))) pe_int) pe_int) pa_nil)) pe_int)) (pss_one (ps_ret (pe_op op_mod (pe_callTy call_int1 rfl T.n_int bt_int (pa_cons (pe_op op_fdivW (pv 4) pe_int) pa_nil)) (pv 1)))))))))))), ?_⟩
    repeat walk_at "s"
    refine r_ixL (.inl (.inl hp)) rfl ?_
    repeat walk_at "s"
    refine ite_d (fun hg => ?_) fun hg => ?_
    · repeat walk_at "s"
      refine r_ixL (.inl (.inl hp)) rfl ?_
      repeat walk_at "s"
      refine r_ixL (.inl (.inl hp)) rfl ?_
      repeat walk_at "s"
      refine r_I (wide_div h0 h1 (by decide) (by decide)) ?_
      repeat walk_at "s"
      refine ⟨p, _, 2, 2, rfl, rfl, hp, rfl, ?_⟩
      repeat walk_at "s"
      refine q _ _ (fun b o n e => by rw [upd_ne n]; exact e) ⟨l, cells, spot, great / many, upd_same, ne, by rw [upd_ne ne]; exact hl, s0, by omega, Int.ediv_nonneg g0 (by omega), c0⟩ (Int.emod_nonneg _ (by omega)) (Int.emod_lt_of_pos _ h0)
    · repeat walk_at "s"
      refine r_ixL (.inl (.inl hp)) rfl ?_
      repeat walk_at "s"
      refine ⟨p, _, 1, 1, rfl, rfl, hp, rfl, ?_⟩
      have hl' : upd H p (.lst [.ref l, .int (spot + 1), .int great]) l = some (.lst (cells.map V.int)) := by rw [upd_ne ne]; exact hl
      repeat walk_at "s"
      refine t_cut (fun σ' H' => ∃ cell : Int, σ' = [some (.ref p), some (.int many), some (.int spot), some (.int cell), none, none, none] ∧ Go p H H' ∧ H' p = some (.lst [.ref l, .int (spot + 1), .int great]) ∧ H' l = some (.lst (cells.map V.int))) ?_ ?_
      · repeat walk_at "s"
        refine r_ixL (.inl (.inl upd_same)) rfl ?_
        repeat walk_at "s"
        refine ⟨lst_ok rfl, fun z hz => ?_⟩
        have S := Same.new (o := .lst []) hz
        have G : Go p H _ := (Go.set (o := .lst [.ref l, .int (spot + 1), .int great])).trans (Same.go S)
        have hp2 := S _ _ (upd_same (H := H) (a := p) (o := .lst [.ref l, .int (spot + 1), .int great]))
        have hl2 := S _ _ hl'
        refine r_neNil (.inl (.inl hl2)) (.inl (.inl upd_same)) ?_
        repeat walk_at "s"
        cases cells with
        | nil =>
          rw [List.isEmpty_nil]
          repeat walk_at "s"
          exact ⟨_, rfl, G, hp2, hl2⟩
        | cons c0' cr =>
          rw [List.isEmpty_cons]
          repeat walk_at "s"
          refine r_ixL (.inl (.inl hp2)) rfl ?_
          repeat walk_at "s"
          refine r_ixL (.inl (.inl hp2)) rfl ?_
          repeat walk_at "s"
          refine c_len (.inl (.inl (.inl hl2))) ?_
          rw [List.length_map]
          have hb : (0 : Int) < ((c0' :: cr).length : Int) := by simp
          refine r_I hb ?_
          obtain ⟨c, hc⟩ := at_ints (ns := c0' :: cr) (i := spot % ((c0' :: cr).length : Int)) (Int.emod_nonneg _ (by omega)) (Int.emod_lt_of_pos _ hb)
          refine r_ixL (.inl (.inl hl2)) hc ?_
          repeat walk_at "s"
          exact ⟨_, rfl, G, hp2, hl2⟩
      · rintro σ' H' ⟨cell, rfl, G, hp2, hl2⟩
        repeat walk_at "s"
        refine r_ixL (.inl (.inl hp2)) rfl ?_
        repeat walk_at "s"
        refine c_len (.inl (.inl (.inl hl2))) ?_
        repeat walk_at "s"
        have fin : ∀ b : Int, Q (.int (b % many)) H' := fun b => q _ _ G ⟨l, cells, spot + 1, great, hp2, ne, hl2, by omega, by omega, g0, c0⟩ (Int.emod_nonneg _ (by omega)) (Int.emod_lt_of_pos _ h0)
        refine ite_d (fun hs => ?_) fun hs => ?_
        · repeat walk_at "s"
          refine ite_d (fun hc => ?_) fun hc => ?_
          · repeat walk_at "s"
            refine r_I (wide_div h0 h1 (by decide) (by decide)) ?_
            repeat walk_at "s"
            refine ⟨p, _, 2, 2, rfl, rfl, hp2, rfl, ?_⟩
            repeat walk_at "s"
            have hG : 0 ≤ 2 * ((if cell < 0 then -cell else cell) - 10 ^ Int.toNat 18) + if decide (cell < 0) = true then 1 else 0 := by
              generalize (10 : Int) ^ Int.toNat 18 = X at hc ⊢
              generalize (if cell < 0 then -cell else cell) = Y at hc ⊢
              split <;> omega
            exact q _ _ (G.trans Go.set) ⟨l, cells, spot + 1, _, upd_same, ne, by rw [upd_ne ne]; exact hl2, by omega, by omega, Int.ediv_nonneg hG (by omega), c0⟩ (Int.emod_nonneg _ (by omega)) (Int.emod_lt_of_pos _ h0)
          · repeat walk_at "s"
            exact fin _
        · repeat walk_at "s"
          exact fin _
theorem ok_pick (T : Txt K mg A D) : FnOk P w K mg base CX0 2 A.pick D.pick ["_law_pen_here", "_law_some"] (spPick K) := by
  refine T.f_pick.ok sc_pick (fun vs H Q E h => ?_) (fun cdv Ar outer s H vs Q E hr h => ?_)
  · obtain ⟨p, z, xs, n, rfl, _⟩ := h
    rfl
  · obtain ⟨p, z, xs, n, rfl, hz, h0, h1, pen, q⟩ := h
    refine ⟨_, (pss_one (ps_ret (pe_ix ix_list (pv 1) (pe_call (ok_draw T) (hr.mono (by decide)) rfl T.m_draw T.f_draw.kp T.b_draw .nil pass0 (pa_cons (pv 0) (pa_cons (pe_callB call_len_seq rfl T.n_len bt_len (pa_cons (pv 1) pa_nil)) pa_nil))) (fun _ _ => rfl)))), ?_⟩
    repeat walk_at "s"
    refine c_len (.inl (.inl (.inl hz.at_))) ?_
    refine ⟨p, xs.length, n, rfl, by omega, by omega, pen, fun d H' G pen' d0 d1 => ?_⟩
    obtain ⟨v, hv, hm⟩ := at_mem d0 d1
    refine r_ixL (.inl (.inl (hz.go G).at_)) hv ?_
    exact q v H' G pen' hm
end
end Ol

namespace Ol
open PySem L2
local macro_rules | `(tactic| walk_at "s") => `(tactic| ((first | with_reducible exact True.intro | ((with_reducible refine' t_var ?hv ?_); (case hv => exact rfl)) | with_reducible refine t_c ?_ | with_reducible refine t_op ?_ | with_reducible refine t_cons ?_ | with_reducible refine t_nil ?_ | with_reducible refine t_cb ?_ | with_reducible refine t_call ?_ | with_reducible refine t_ret ?_ | with_reducible refine t_seq ?_ | with_reducible refine t_asg ?_ | with_reducible refine t_name ?_ | with_reducible refine t_ifS ?_ | with_reducible refine t_next ?_ | with_reducible refine t_B ?_ | with_reducible refine t_test ?_ | with_reducible refine t_and ?_ | with_reducible refine t_or ?_ | with_reducible refine t_not ?_ | with_reducible refine t_andV ?_ | with_reducible refine t_orV ?_ | with_reducible refine t_notV ?_ | with_reducible refine t_if ?_ | with_reducible refine t_chain ?_ | with_reducible refine t_un ?_ | with_reducible refine t_meth ?_ | with_reducible refine t_fld ?_ | with_reducible refine t_sfld ?_ | with_reducible refine t_par3 ?_ | with_reducible refine t_for1 ?_ | with_reducible refine t_forL ?_ | with_reducible refine t_forT ?_ | with_reducible refine c_abs ?_ | with_reducible refine t_make ?_ | with_reducible refine ex_par3 ?_ | with_reducible refine t_drop ?_ | with_reducible refine t_retN ?_ | with_reducible refine t_lst ?_ | with_reducible refine t_tup ?_ | with_reducible refine t_par ?_ | with_reducible refine ex_par ?_ | with_reducible refine t_sl ?_ | with_reducible refine t_part ?_ | with_reducible refine t_noPart ?_ | with_reducible refine t_sub ?_ | with_reducible refine ex_bl ?_ | with_reducible refine ex_int ?_ | with_reducible refine r_I0 ?_ | with_reducible refine r_U ?_ | with_reducible refine r_eqI ?_ | with_reducible refine r_neI ?_ | with_reducible refine r_eqB ?_ | with_reducible refine r_neB ?_ | ((with_reducible refine r_I ?hi ?_); (case hi => first | omega | decide | exact .inl ⟨by omega, by omega⟩ | exact .inr ⟨by omega, by omega⟩ | exact ⟨by omega, by omega, by omega⟩ | exact ⟨by decide, by decide⟩ | exact ⟨by decide, by decide, mix_lt (Int.emod_nonneg _ (by decide)) (Int.lt_of_lt_of_le (Int.emod_lt_of_pos _ (by decide)) (by decide)) (by omega) (by omega) (by decide) (by decide) (by decide) (by decide) (by decide) (by decide)⟩ | exact .inl ⟨Int.lt_of_lt_of_le (by decide) (Int.emod_nonneg _ (by decide)), Int.lt_trans (Int.emod_lt_of_pos _ (by decide)) (by decide)⟩)) | with_reducible refine c_int1 ?_ | with_reducible refine c_intB ?_ | with_reducible refine iteT ?_ | with_reducible refine iteF ?_ | with_reducible refine ite_n ?_ | ((with_reducible refine ite_y ?hc ?_); (case hc => first | omega | decide)) | ((with_reducible refine ite_f ?hc ?_); (case hc => first | omega | decide))); try dsimp only))

section
variable {P : Program} {w : World} {K : PySem.W.Frag} {mg : Str → Option Value} {base : Heap} {A : Ad} {D : Fd}
def spMom : Sp := fun vs H Q _ => ∃ (p : Addr) (size : Int) (n : Nat), vs = [.ref p, .int size] ∧ (1 ≤ size ∧ size ≤ 1000000000000) ∧ Pen p H (n + 5) ∧ ∀ (m : Int) (H' : Hp), Go p H H' → Pen p H' n → m.natAbs ≤ 10 ^ 50 → Q (.int m) H'
theorem ok_moment (T : Txt K mg A D) : FnOk P w K mg base CX0 3 A.moment D.moment ["_law_pen_here", "_law_size"] spMom := by
  refine T.f_moment.ok sc_moment (fun vs H Q E h => ?_) (fun cdv Ar outer s H vs Q E hr h => ?_)
  · obtain ⟨p, size, n, rfl, _⟩ := h
    rfl
  · obtain ⟨p, size, n, rfl, hs, pen, q⟩ := h
    refine ⟨_, (pss_cons (ps_set (i := 2) sc_moment.nd rfl (Or.inl rfl) (pe_call (ok_pick T) (hr.mono (by decide)) rfl T.m_pick T.f_pick.kp T.b_pick .nil pass0 (pa_cons (pv 0) (pa_cons (pe_lst (pa_cons (pe_call (ok_draw T) (hr.mono (by decide)) rfl T.m_draw T.f_draw.kp T.b_draw .nil pass0 (pa_cons (pv 0) (pa_cons (pv 1) pa_nil))) (pa_cons (pe_call (ok_draw T) (hr.mono (by decide)) rfl T.m_draw T.f_draw.kp T.b_draw .nil pass0 (pa_cons (pv 0) (pa_cons (pe_op op_mul pe_int (pv 1)) pa_nil))) (pa_cons (pe_op op_add (pe_op op_pow pe_int pe_int) (pe_call (ok_draw T) (hr.mono (by decide)) rfl T.m_draw T.f_draw.kp T.b_draw .nil pass0 (pa_cons (pv 0) (pa_cons (pe_op op_pow pe_int pe_int) pa_nil)))) (pa_cons pe_int pa_nil))))) pa_nil)))) (pss_one (ps_ret (pe_ifExp (pt_cmpR op_eq (pe_call (ok_draw T) (hr.mono (by decide)) rfl T.m_draw T.f_draw.kp T.b_draw .nil pass0 (pa_cons (pv 0) (pa_cons pe_int pa_nil))) pe_int (nomark _)) (pv 2) (pe_op op_sub pe_int (pv 2)))))), ?_⟩
    repeat walk_at "s"
    refine ⟨p, _, n + 4, rfl, by omega, by omega, pen, fun d1 H1 G1 pen1 a1 b1 => ?_⟩
    repeat walk_at "s"
    refine ⟨p, _, n + 3, rfl, by omega, by omega, pen1, fun d2 H2 G2 pen2 a2 b2 => ?_⟩
    repeat walk_at "s"
    refine ⟨p, _, n + 2, rfl, by decide, by decide, pen2, fun d3 H3 G3 pen3 a3 b3 => ?_⟩
    repeat walk_at "s"
    refine ⟨lst_ok rfl, fun z hz => ?_⟩
    refine ⟨p, z, _, n + 1, rfl, pen3.at hz, by simp, by simp, pen3.new hz, fun v H4 G4 pen4 hv => ?_⟩
    have hm : ∃ m : Int, v = .int m ∧ 0 ≤ m ∧ m ≤ 10 ^ 49 := by
      have e : (10 : Int) ^ Int.toNat 18 = 1000000000000000000 := by decide
      have e2 : (10 : Int) ^ Int.toNat 48 = 10 ^ 48 := by decide
      rw [e] at b3
      rw [e2] at hv
      simp only [List.mem_cons, List.not_mem_nil, or_false] at hv
      rcases hv with rfl | rfl | rfl | rfl
      · exact ⟨d1, rfl, a1, by omega⟩
      · exact ⟨d2, rfl, a2, by omega⟩
      · exact ⟨_, rfl, by omega, by omega⟩
      · exact ⟨0, rfl, by omega, by omega⟩
    obtain ⟨m, rfl, m0, m1⟩ := hm
    have G : Go p H H4 := ((G1.trans G2).trans G3).trans ((Go.new hz).trans G4)
    repeat walk_at "s"
    refine ⟨p, _, n, rfl, by decide, by decide, pen4, fun d5 H5 G5 pen5 a5 b5 => ?_⟩
    repeat walk_at "s"
    refine ite_d (fun _ => ?_) fun _ => ?_
    · repeat walk_at "s"
      exact q _ _ (G.trans G5) pen5 (by omega)
    · repeat walk_at "s"
      exact q _ _ (G.trans G5) pen5 (by omega)
def spWaits (C : Addr) : Sp := fun vs H Q _ => ∃ (p a : Addr) (L : Int) (n : Nat), vs = [.ref p, .ref a, .int L] ∧ DayAt C H a L ∧ Pen p H (n + 16) ∧ ∀ H' : Hp, Go p H H' → Pen p H' n → Q (.bl true) H'
theorem ok_waits_right (T : Txt K mg A D) : FnOk P w K mg base CX0 4 A.waits_right D.waits_right ["_law_pen_here", "_law_day", "_law_size"] (spWaits A.Day) := by
  refine T.f_waits_right.ok sc_waits_right (fun vs H Q E h => ?_) (fun cdv Ar outer s H vs Q E hr h => ?_)
  · obtain ⟨p, a, L, n, rfl, _⟩ := h
    rfl
  · obtain ⟨p, a, L, n, rfl, da, pen, q⟩ := h
    have hL := da.1
    refine ⟨_, (pss_cons (ps_par3 (i := 4) (j := 5) (l := 6) rfl sc_waits_right.nd rfl rfl rfl (by decide) (by decide) (by decide) rfl rfl rfl (pa_cons (pe_call (ok_moment T) (hr.mono (by decide)) rfl T.m_moment T.f_moment.kp T.b_moment .nil pass0 (pa_cons (pv 0) (pa_cons (pv 2) pa_nil))) (pa_cons (pe_call (ok_moment T) (hr.mono (by decide)) rfl T.m_moment T.f_moment.kp T.b_moment .nil pass0 (pa_cons (pv 0) (pa_cons (pv 2) pa_nil))) (pa_cons (pe_call (ok_moment T) (hr.mono (by decide)) rfl T.m_moment T.f_moment.kp T.b_moment .nil pass0 (pa_cons (pv 0) (pa_cons (pv 2) pa_nil))) pa_nil))) (by rfl)) (pss_cons (ps_par (i := 7) (j := 8) rfl sc_waits_right.nd rfl rfl (by decide) rfl rfl (pa_cons (pe_meth (pv 1) T.cl_Day T.me_Day_forward (ok_Day_forward T) (hr.mono (by decide)) T.b_Day_forward .nil pass0 (pa_cons (pv 4) (pa_cons (pv 5) pa_nil))) (pa_cons (pe_meth (pv 1) T.cl_Day T.me_Day_forward (ok_Day_forward T) (hr.mono (by decide)) T.b_Day_forward .nil pass0 (pa_cons (pv 5) (pa_cons (pv 4) pa_nil))) pa_nil)) (by rfl)) (pss_cons (ps_if (pt_cmpR op_ne (pe_op op_add (pv 7) (pv 8)) (pe_ifExp (pt_cmpR op_eq (pe_op (op_refl T.re_Day_Mod F.fills_int_mod F.slot_int_mod lets_mod (ok_Day_rmod T) (hr.mono (by decide)) T.b_Day_rmod pass0) (pe_callTy call_int1 rfl T.n_int bt_int (pa_cons (pv 4) pa_nil)) (pv 1)) (pe_op (op_refl T.re_Day_Mod F.fills_int_mod F.slot_int_mod lets_mod (ok_Day_rmod T) (hr.mono (by decide)) T.b_Day_rmod pass0) (pe_callTy call_int1 rfl T.n_int bt_int (pa_cons (pv 5) pa_nil)) (pv 1)) (nomark _)) pe_int (pv 2)) (nomark _)) (pss_one (ps_ret pe_bl)) pss_nil) (pss_cons (ps_if (PW.pt (pw_or (pt_cmpR op_ne (pe_op (op_refl T.re_Day_Mod F.fills_int_mod F.slot_int_mod lets_mod (ok_Day_rmod T) (hr.mono (by decide)) T.b_Day_rmod pass0) (pe_callTy call_int1 rfl T.n_int bt_int (pa_cons (pe_op op_add (pv 7) (pe_meth (pv 1) T.cl_Day T.me_Day_forward (ok_Day_forward T) (hr.mono (by decide)) T.b_Day_forward .nil pass0 (pa_cons (pv 5) (pa_cons (pv 6) pa_nil)))) pa_nil)) (pv 1)) (pe_meth (pv 1) T.cl_Day T.me_Day_forward (ok_Day_forward T) (hr.mono (by decide)) T.b_Day_forward .nil pass0 (pa_cons (pv 4) (pa_cons (pv 6) pa_nil))) (nomark _)) (pw_or1 (pt_cmpR op_ne (pe_op (op_refl T.re_Day_Mod F.fills_int_mod F.slot_int_mod lets_mod (ok_Day_rmod T) (hr.mono (by decide)) T.b_Day_rmod pass0) (pe_callTy call_int1 rfl T.n_int bt_int (pa_cons (pe_op op_add (pv 4) (pv 7)) pa_nil)) (pv 1)) (pe_op (op_refl T.re_Day_Mod F.fills_int_mod F.slot_int_mod lets_mod (ok_Day_rmod T) (hr.mono (by decide)) T.b_Day_rmod pass0) (pe_callTy call_int1 rfl T.n_int bt_int (pa_cons (pv 5) pa_nil)) (pv 1)) (nomark _))))) (pss_one (ps_ret pe_bl)) pss_nil) (pss_cons (ps_set (i := 3) sc_waits_right.nd rfl (Or.inl rfl) (pe_op op_sub (pe_call (ok_draw T) (hr.mono (by decide)) rfl T.m_draw T.f_draw.kp T.b_draw .nil pass0 (pa_cons (pv 0) (pa_cons (pe_op op_pow pe_int pe_int) pa_nil))) (pe_op op_pow pe_int pe_int))) (pss_cons (ps_if (PW.pt (pw_or (pt_cmpR op_ne (pe_op (op_refl T.re_Day_Mod F.fills_int_mod F.slot_int_mod lets_mod (ok_Day_rmod T) (hr.mono (by decide)) T.b_Day_rmod pass0) (pe_callTy call_int1 rfl T.n_int bt_int (pa_cons (pe_op op_add (pv 4) (pe_op op_mul (pv 3) (pv 2))) pa_nil)) (pv 1)) (pe_op (op_refl T.re_Day_Mod F.fills_int_mod F.slot_int_mod lets_mod (ok_Day_rmod T) (hr.mono (by decide)) T.b_Day_rmod pass0) (pe_callTy call_int1 rfl T.n_int bt_int (pa_cons (pv 4) pa_nil)) (pv 1)) (nomark _)) (pw_or1 (pt_cmpR op_ne (pe_op (op_refl T.re_Day_FloorDiv F.fills_int_floordiv F.slot_int_floordiv lets_fdiv (ok_Day_rfloordiv T) (hr.mono (by decide)) T.b_Day_rfloordiv pass0) (pe_op op_add (pv 4) (pe_op op_mul (pv 3) (pv 2))) (pv 1)) (pe_op op_add (pe_op (op_refl T.re_Day_FloorDiv F.fills_int_floordiv F.slot_int_floordiv lets_fdiv (ok_Day_rfloordiv T) (hr.mono (by decide)) T.b_Day_rfloordiv pass0) (pv 4) (pv 1)) (pv 3)) (nomark _))))) (pss_one (ps_ret pe_bl)) pss_nil) (pss_one (ps_ret (pe_and (pe_cmpR op_eq (pe_meth (pv 1) T.cl_Day T.me_Day_forward (ok_Day_forward T) (hr.mono (by decide)) T.b_Day_forward .nil pass0 (pa_cons (pe_op op_add (pv 4) (pe_op op_mul (pv 3) (pv 2))) (pa_cons (pe_op op_sub (pv 5) (pe_op op_mul (pv 3) (pv 2))) pa_nil))) (pv 7) (nomark _)) (pe_one (pe_cmpR op_eq (pe_op (op_refl T.re_Day_Mod F.fills_int_mod F.slot_int_mod lets_mod (ok_Day_rmod T) (hr.mono (by decide)) T.b_Day_rmod pass0) (pe_callTy call_int1 rfl T.n_int bt_int (pa_cons (pe_op (op_refl T.re_Day_Mod F.fills_int_mod F.slot_int_mod lets_mod (ok_Day_rmod T) (hr.mono (by decide)) T.b_Day_rmod pass0) (pe_callTy call_int1 rfl T.n_int bt_int (pa_cons (pv 4) pa_nil)) (pv 1)) pa_nil)) (pv 1)) (pe_op (op_refl T.re_Day_Mod F.fills_int_mod F.slot_int_mod lets_mod (ok_Day_rmod T) (hr.mono (by decide)) T.b_Day_rmod pass0) (pe_callTy call_int1 rfl T.n_int bt_int (pa_cons (pv 4) pa_nil)) (pv 1)) (nomark _)))))))))))), ?_⟩
    repeat walk_at "s"
    refine ⟨p, L, n + 11, rfl, hL, pen, fun x H1 G1 pen1 hx => ?_⟩
    repeat walk_at "s"
    refine ⟨p, L, n + 6, rfl, hL, pen1, fun y H2 G2 pen2 hy => ?_⟩
    repeat walk_at "s"
    refine ⟨p, L, n + 1, rfl, hL, pen2, fun z H3 G3 pen3 hz => ?_⟩
    have d3 := ((da.go pen G1).go pen1 G2).go pen2 G3
    have e60 : ∀ t : Int, t.natAbs ≤ 10 ^ 50 → t.natAbs < 10 ^ 60 := fun t h => by omega
    have m0 := fun t : Int => Int.emod_nonneg t (show L ≠ 0 by omega)
    have m1 := fun t : Int => Int.emod_lt_of_pos t (show 0 < L by omega)
    repeat walk_at "s"
    refine x_fwd d3 ?_
    repeat walk_at "s"
    refine s_fwd d3 (e60 _ hx) (e60 _ hy) fun H4 S4 => ?_
    have d4 := d3.same S4
    repeat walk_at "s"
    refine x_fwd d4 ?_
    repeat walk_at "s"
    refine s_fwd d4 (e60 _ hy) (e60 _ hx) fun H5 S5 => ?_
    have d5 := d4.same S5
    repeat walk_at "s"
    refine r_rmod d5 (e60 _ hx) ?_
    repeat walk_at "s"
    refine r_rmod d5 (e60 _ hy) ?_
    repeat walk_at "s"
    have b1 := m0 (y - x)
    have b2 := m1 (y - x)
    have b3 := m0 (z - y)
    have b4 := m1 (z - y)
    refine if_int (fun Q q => q) (fun Q q => ⟨_, rfl, q⟩) ?_
    repeat walk_at "s"
    refine ite_y (fwd_sum (by omega)) ?_
    repeat walk_at "s"
    refine x_fwd d5 ?_
    repeat walk_at "s"
    refine s_fwd d5 (e60 _ hy) (e60 _ hz) fun H6 S6 => ?_
    have d6 := d5.same S6
    repeat walk_at "s"
    refine r_rmod d6 (by omega) ?_
    repeat walk_at "s"
    refine x_fwd d6 ?_
    repeat walk_at "s"
    refine s_fwd d6 (e60 _ hx) (e60 _ hz) fun H7 S7 => ?_
    have d7 := d6.same S7
    repeat walk_at "s"
    refine ite_y fwd_row ?_
    repeat walk_at "s"
    refine r_rmod d7 (by omega) ?_
    repeat walk_at "s"
    refine r_rmod d7 (e60 _ hy) ?_
    repeat walk_at "s"
    refine ite_y fwd_to ?_
    repeat walk_at "s"
    have S37 := ((S4.trans S5).trans S6).trans S7
    have pen7 := pen3.same S37
    refine ⟨p, _, n, rfl, by decide, by decide, pen7, fun d H8 G8 pen8 d0 d1 => ?_⟩
    have e6 : (10 : Int) ^ Int.toNat 6 = 1000000 := by decide
    have e5 : (10 : Int) ^ Int.toNat 5 = 100000 := by decide
    rw [e6] at d1
    have d8 := d7.go pen7 G8
    repeat walk_at "s"
    rw [e5]
    generalize hd : d - 100000 = t
    have t0 : -100000 ≤ t := by omega
    have t1 : t ≤ 1000000 := by omega
    have tL : (t * L).natAbs ≤ 1000000000000000000 := by
      rw [Int.natAbs_mul]
      have := Nat.mul_le_mul (show t.natAbs ≤ 1000000 by omega) (show L.natAbs ≤ 1000000000000 by omega)
      omega
    repeat walk_at "s"
    refine r_rmod d8 (by omega) ?_
    repeat walk_at "s"
    refine r_rmod d8 (e60 _ hx) ?_
    repeat walk_at "s"
    refine ite_y day_more ?_
    repeat walk_at "s"
    refine r_rfdiv d8 (by omega) ?_
    repeat walk_at "s"
    refine r_rfdiv d8 (e60 _ hx) ?_
    repeat walk_at "s"
    refine ite_y (day_count (by omega)) ?_
    repeat walk_at "s"
    refine x_fwd d8 ?_
    repeat walk_at "s"
    refine s_fwd d8 (by omega) (by omega) fun H9 S9 => ?_
    have d9 := d8.same S9
    repeat walk_at "s"
    refine ite_y fwd_days ?_
    repeat walk_at "s"
    have bx := m0 x
    have by' := m1 x
    refine r_rmod d9 (e60 _ hx) ?_
    repeat walk_at "s"
    refine r_rmod d9 (by omega) ?_
    repeat walk_at "s"
    refine r_rmod d9 (e60 _ hx) ?_
    repeat walk_at "s"
    rw [decide_eq_true (Int.emod_emod x L)]
    exact q _ ((((G1.trans G2).trans G3).trans (Same.go S37)).trans (G8.trans (Same.go S9))) (pen8.same S9)
def spLong (C : Addr) : Sp := fun vs H Q _ => ∃ (p a : Addr) (L k : Int) (n : Nat), vs = [.ref p, .ref a, .int L, .int k] ∧ DayAt C H a L ∧ (1 ≤ k ∧ k ≤ 7) ∧ k * L ≤ 1000000000000 ∧ Pen p H (n + 30) ∧ ∀ H' : Hp, Go p H H' → Pen p H' n → Q (.bl true) H'
theorem ok_long_right (T : Txt K mg A D) : FnOk P w K mg base CX0 6 A.long_right D.long_right ["_law_pen_here", "_law_day", "_law_size", "_law_many"] (spLong A.Day) := by
  refine T.f_long_right.ok sc_long_right (fun vs H Q E h => ?_) (fun cdv Ar outer s H vs Q E hr h => ?_)
  · obtain ⟨p, a, L, k, n, rfl, _⟩ := h
    rfl
  · obtain ⟨p, a, L, k, n, rfl, da, hk, hkL, pen, q⟩ := h
    have hL := da.1
    have kL1 : 1 ≤ k * L := by
      have := Int.mul_le_mul hk.1 hL.1 (by omega) (by omega)
      omega
    have e60 : ∀ t : Int, t.natAbs ≤ 10 ^ 50 → t.natAbs < 10 ^ 60 := fun t h => by omega
    refine ⟨_, (pss_cons (ps_set (i := 4) sc_long_right.nd rfl (Or.inl rfl) (pe_op (op_ownL T.ow_Day_Mult_int (ok_Day_mul T) (hr.mono (by decide)) T.b_Day_mul pass0) (pv 1) (pv 3))) (pss_cons (ps_if (PW.pt (pw_or (pt_cmpR (op_neO T.ne_Day (ok_Day_eq T) (hr.mono (by decide)) T.b_Day_eq pass0) (pv 4) (pe_op (op_refl T.re_Day_Mult F.fills_int_mul F.slot_int_mul lets_mul (ok_Day_rmul T) (hr.mono (by decide)) T.b_Day_rmul pass0) (pv 3) (pv 1)) (nomark _)) (pw_or (pt_cmpR op_ne (pe_fld (pv 4) rfl) (pe_op op_mul (pv 2) (pv 3)) (nomark _)) (pw_or1 (pt_cmpR op_ne (pe_cmpR (op_cmpO rich_eq T.co_Day_Eq (ok_Day_eq T) (hr.mono (by decide)) T.b_Day_eq pass0) (pv 1) (pv 4) (nomark _)) (pe_cmpR op_eq (pv 3) pe_int (nomark _)) (nomark _)))))) (pss_one (ps_ret pe_bl)) pss_nil) (pss_cons (ps_for PassesOwn.never rfl (pi_range1 rfl T.n_range (pa_cons pe_int pa_nil)) (pg_name (i := 5) sc_long_right.nd rfl (Or.inl rfl)) (pss_cons (ps_set (i := 6) sc_long_right.nd rfl (Or.inl rfl) (pe_call (ok_moment T) (hr.mono (by decide)) rfl T.m_moment T.f_moment.kp T.b_moment .nil pass0 (pa_cons (pv 0) (pa_cons (pe_op op_mul (pv 2) (pv 3)) pa_nil)))) (pss_cons (ps_if (PW.pt (pw_or (pt_cmpR op_ne (pe_op (op_refl T.re_Day_FloorDiv F.fills_int_floordiv F.slot_int_floordiv lets_fdiv (ok_Day_rfloordiv T) (hr.mono (by decide)) T.b_Day_rfloordiv pass0) (pv 6) (pv 4)) (pe_op op_fdivW (pe_op (op_refl T.re_Day_FloorDiv F.fills_int_floordiv F.slot_int_floordiv lets_fdiv (ok_Day_rfloordiv T) (hr.mono (by decide)) T.b_Day_rfloordiv pass0) (pv 6) (pv 1)) (pv 3)) (nomark _)) (pw_or1 (pt_cmpR op_ne (pe_op (op_refl T.re_Day_Mod F.fills_int_mod F.slot_int_mod lets_mod (ok_Day_rmod T) (hr.mono (by decide)) T.b_Day_rmod pass0) (pe_callTy call_int1 rfl T.n_int bt_int (pa_cons (pv 6) pa_nil)) (pv 4)) (pe_op op_add (pe_op (op_refl T.re_Day_Mod F.fills_int_mod F.slot_int_mod lets_mod (ok_Day_rmod T) (hr.mono (by decide)) T.b_Day_rmod pass0) (pe_callTy call_int1 rfl T.n_int bt_int (pa_cons (pv 6) pa_nil)) (pv 1)) (pe_op op_mul (pv 2) (pe_op op_sub (pe_op (op_refl T.re_Day_FloorDiv F.fills_int_floordiv F.slot_int_floordiv lets_fdiv (ok_Day_rfloordiv T) (hr.mono (by decide)) T.b_Day_rfloordiv pass0) (pv 6) (pv 1)) (pe_op op_mul (pe_op (op_refl T.re_Day_FloorDiv F.fills_int_floordiv F.slot_int_floordiv lets_fdiv (ok_Day_rfloordiv T) (hr.mono (by decide)) T.b_Day_rfloordiv pass0) (pv 6) (pv 4)) (pv 3))))) (nomark _))))) (pss_one (ps_ret pe_bl)) pss_nil) (pss_cons (ps_set (i := 7) sc_long_right.nd rfl (Or.inl rfl) (pe_call (ok_moment T) (hr.mono (by decide)) rfl T.m_moment T.f_moment.kp T.b_moment .nil pass0 (pa_cons (pv 0) (pa_cons (pv 2) pa_nil)))) (pss_cons (ps_set (i := 8) sc_long_right.nd rfl (Or.inl rfl) (pe_meth (pv 4) T.cl_Day T.me_Day_forward (ok_Day_forward T) (hr.mono (by decide)) T.b_Day_forward .nil pass0 (pa_cons (pv 6) (pa_cons (pv 7) pa_nil)))) (pss_one (ps_if (PW.pt (pw_or (pt_cmpR op_ne (pe_op (op_refl T.re_Day_Mod F.fills_int_mod F.slot_int_mod lets_mod (ok_Day_rmod T) (hr.mono (by decide)) T.b_Day_rmod pass0) (pe_callTy call_int1 rfl T.n_int bt_int (pa_cons (pv 8) pa_nil)) (pv 1)) (pe_meth (pv 1) T.cl_Day T.me_Day_forward (ok_Day_forward T) (hr.mono (by decide)) T.b_Day_forward .nil pass0 (pa_cons (pv 6) (pa_cons (pv 7) pa_nil))) (nomark _)) (pw_or (pt_cmpR op_lt (pv 8) (pe_meth (pv 1) T.cl_Day T.me_Day_forward (ok_Day_forward T) (hr.mono (by decide)) T.b_Day_forward .nil pass0 (pa_cons (pv 6) (pa_cons (pv 7) pa_nil))) (nomark _)) (pw_or1 (pt_cmpR op_ge (pv 8) (pe_op op_mul (pv 2) (pv 3)) (nomark _)))))) (pss_one (ps_ret pe_bl)) pss_nil))))))) (pss_one (ps_ret pe_bl))))), ?_⟩
    repeat walk_at "s"
    refine r_dmul da ⟨kL1, hkL⟩ fun b H1 S1 nb db => ?_
    have da1 := da.same S1
    have pen1 := pen.same S1
    repeat walk_at "s"
    refine r_rdmul da1 ⟨kL1, hkL⟩ fun c H2 S2 nc dc => ?_
    have da2 := da1.same S2
    have db2 := db.same S2
    have pen2 := pen1.same S2
    repeat walk_at "s"
    refine r_dne T.is_Day db2 dc ?_
    repeat walk_at "s"
    refine x_len T.cl_Day T.na_Day_length db2 ?_
    repeat walk_at "s"
    refine ite_y (Int.mul_comm k L) ?_
    repeat walk_at "s"
    refine r_deq T.is_Day da2 db2 ?_
    repeat walk_at "s"
    have eq1 : decide (L = k * L) = decide (k = 1) := by
      by_cases h1 : k = 1
      · subst h1; simp
      · rw [decide_eq_false h1, decide_eq_false]
        intro h2
        have := Int.mul_le_mul (show 2 ≤ k by omega) (Int.le_refl L) (by omega) (by omega)
        omega
    refine ite_y eq1 ?_
    repeat walk_at "s"
    refine ex_rng (n := 3) rfl (by decide) (fun i σ' H' => (∃ v1 v2 v3 v4, σ' = [some (.ref p), some (.ref a), some (.int L), some (.int k), some (.ref b), v1, v2, v3, v4]) ∧ Go p H H' ∧ DayAt A.Day H' a L ∧ DayAt A.Day H' b (k * L) ∧ Pen p H' (n + 30 - 10 * i)) ⟨⟨_, _, _, _, rfl⟩, Same.go (S1.trans S2), da2, db2, pen2⟩ ?_ ?_
    · rintro i σ' H3 hi ⟨⟨v1, v2, v3, v4, rfl⟩, G3, da3, db3, pen3⟩
      repeat walk_at "s"
      have hsz : 1 ≤ L * k ∧ L * k ≤ 1000000000000 := by rw [Int.mul_comm]; exact ⟨kL1, hkL⟩
      refine ⟨p, L * k, n + 30 - 10 * i - 5, rfl, hsz, pen3.le (by omega), fun x H4 G4 pen4 hx => ?_⟩
      have da4 := da3.go pen3 G4
      have db4 := db3.go pen3 G4
      repeat walk_at "s"
      refine r_rfdiv db4 (e60 _ hx) ?_
      repeat walk_at "s"
      refine r_rfdiv da4 (e60 _ hx) ?_
      repeat walk_at "s"
      refine r_I (wide_div (b := 41) (by omega) (by omega) (by decide) (by decide)) ?_
      repeat walk_at "s"
      refine ite_y (long_div (by omega) (by omega)) ?_
      repeat walk_at "s"
      refine r_rmod db4 (e60 _ hx) ?_
      repeat walk_at "s"
      refine r_rmod da4 (e60 _ hx) ?_
      repeat walk_at "s"
      refine r_rfdiv da4 (e60 _ hx) ?_
      repeat walk_at "s"
      refine r_rfdiv db4 (e60 _ hx) ?_
      repeat walk_at "s"
      refine ite_y (long_mod (by omega) (by omega)) ?_
      repeat walk_at "s"
      refine ⟨p, L, n + 30 - 10 * (i + 1), rfl, hL, pen4.le (by omega), fun y H5 G5 pen5 hy => ?_⟩
      have da5 := da4.go pen4 G5
      have db5 := db4.go pen4 G5
      repeat walk_at "s"
      refine x_fwd db5 ?_
      repeat walk_at "s"
      refine s_fwd db5 (e60 _ hx) (e60 _ hy) fun H6 S6 => ?_
      have da6 := da5.same S6
      have db6 := db5.same S6
      have f0 := Int.emod_nonneg (y - x) (show k * L ≠ 0 by omega)
      have f1 := Int.emod_lt_of_pos (y - x) (show 0 < k * L by omega)
      repeat walk_at "s"
      refine r_rmod da6 (by omega) ?_
      repeat walk_at "s"
      refine x_fwd da6 ?_
      repeat walk_at "s"
      refine s_fwd da6 (e60 _ hx) (e60 _ hy) fun H7 S7 => ?_
      have da7 := da6.same S7
      repeat walk_at "s"
      refine ite_y wait_mod ?_
      repeat walk_at "s"
      refine x_fwd da7 ?_
      repeat walk_at "s"
      refine s_fwd da7 (e60 _ hx) (e60 _ hy) fun H8 S8 => ?_
      repeat walk_at "s"
      refine ite_f (by have := wait_ge (d := y - x) (k := k) (L := L) (by omega) (by omega); omega) ?_
      repeat walk_at "s"
      refine ite_f (by rw [Int.mul_comm L k]; omega) ?_
      repeat walk_at "s"
      have S := (S6.trans S7).trans S8
      exact ⟨⟨_, _, _, _, rfl⟩, ((G3.trans G4).trans G5).trans (Same.go S), da5.same S, db5.same S, pen5.same S⟩
    · rintro σ' H' ⟨⟨v1, v2, v3, v4, rfl⟩, G, _, _, pen'⟩
      repeat walk_at "s"
      exact q _ G pen'
def spLaw (K : PySem.W.Frag) : Sp := fun vs H Q _ => ∃ (a : Addr) (ns : List Int), vs = [.ref a] ∧ SqL K H a (ns.map V.int) ∧ ns.length ≤ 63 ∧ ∀ H', Q (.bl true) H'
theorem ok_law (T : Txt K mg A D) : FnOk P w K mg base CX0 7 A.law D.law ["_law_script"] (spLaw K) := by
  refine T.f_law.ok sc_law (fun vs H Q E h => ?_) (fun cdv Ar outer s H vs Q E hr h => ?_)
  · obtain ⟨a, ns, rfl, _⟩ := h
    rfl
  · obtain ⟨a, ns, rfl, hS, hn, q⟩ := h
    refine ⟨_, (pss_cons (ps_set (i := 1) sc_law.nd rfl (Or.inl rfl) (pe_call (ok_pen T) (hr.mono (by decide)) rfl T.m_pen T.f_pen.kp T.b_pen .nil pass0 (pa_cons (pv 0) pa_nil))) (pss_cons (ps_for PassesOwn.never rfl (pi_range1 rfl T.n_range (pa_cons pe_int pa_nil)) (pg_name (i := 2) sc_law.nd rfl (Or.inl rfl)) (pss_cons (ps_set (i := 3) sc_law.nd rfl (Or.inl rfl) (pe_call (ok_pick T) (hr.mono (by decide)) rfl T.m_pick T.f_pick.kp T.b_pick .nil pass0 (pa_cons (pv 1) (pa_cons (pe_lst (pa_cons pe_int (pa_cons pe_int (pa_cons pe_int (pa_cons pe_int (pa_cons (pe_op op_add pe_int (pe_call (ok_draw T) (hr.mono (by decide)) rfl T.m_draw T.f_draw.kp T.b_draw .nil pass0 (pa_cons (pv 1) (pa_cons pe_int pa_nil)))) (pa_cons (pe_op op_sub (pe_op op_pow pe_int pe_int) pe_int) (pa_cons (pe_op op_fdivW (pe_op op_pow pe_int pe_int) pe_int) pa_nil)))))))) pa_nil)))) (pss_cons (ps_set (i := 4) sc_law.nd rfl (Or.inl rfl) (pe_call (ok_pick T) (hr.mono (by decide)) rfl T.m_pick T.f_pick.kp T.b_pick .nil pass0 (pa_cons (pv 1) (pa_cons (pe_lst (pa_cons pe_int (pa_cons pe_int (pa_cons pe_int (pa_cons pe_int (pa_cons (pe_op op_add pe_int (pe_call (ok_draw T) (hr.mono (by decide)) rfl T.m_draw T.f_draw.kp T.b_draw .nil pass0 (pa_cons (pv 1) (pa_cons pe_int pa_nil)))) pa_nil)))))) pa_nil)))) (pss_cons (ps_if (PW.pt (pw_or (pt_not (pt_val (pe_call (ok_waits_right T) (hr.mono (by decide)) rfl T.m_waits_right T.f_waits_right.kp T.b_waits_right .nil pass0 (pa_cons (pv 1) (pa_cons (pe_make T.mk_Day (ok_Day_init T) (hr.mono (by decide)) rfl T.m_Day T.b_Day_init .nil pass0 (pa_cons (pv 3) pa_nil)) (pa_cons (pv 3) pa_nil)))))) (pw_or1 (pt_not (pt_val (pe_call (ok_long_right T) (hr.mono (by decide)) rfl T.m_long_right T.f_long_right.kp T.b_long_right .nil pass0 (pa_cons (pv 1) (pa_cons (pe_make T.mk_Day (ok_Day_init T) (hr.mono (by decide)) rfl T.m_Day T.b_Day_init .nil pass0 (pa_cons (pv 3) pa_nil)) (pa_cons (pv 3) (pa_cons (pv 4) pa_nil)))))))))) (pss_one (ps_ret pe_bl)) pss_nil) (pss_cons (ps_set (i := 5) sc_law.nd rfl (Or.inl rfl) (pe_op (op_ownL T.ow_Day_Mult_int (ok_Day_mul T) (hr.mono (by decide)) T.b_Day_mul pass0) (pe_make T.mk_Day (ok_Day_init T) (hr.mono (by decide)) rfl T.m_Day T.b_Day_init .nil pass0 (pa_cons (pv 3) pa_nil)) (pv 4))) (pss_cons (ps_if (pt_cmpR (op_neO T.ne_Day (ok_Day_eq T) (hr.mono (by decide)) T.b_Day_eq pass0) (pe_op (op_refl T.re_Day_Mult F.fills_int_mul F.slot_int_mul lets_mul (ok_Day_rmul T) (hr.mono (by decide)) T.b_Day_rmul pass0) pe_int (pe_op (op_ownL T.ow_Day_Mult_int (ok_Day_mul T) (hr.mono (by decide)) T.b_Day_mul pass0) (pe_make T.mk_Day (ok_Day_init T) (hr.mono (by decide)) rfl T.m_Day T.b_Day_init .nil pass0 (pa_cons (pv 3) pa_nil)) pe_int)) (pe_op (op_ownL T.ow_Day_Mult_int (ok_Day_mul T) (hr.mono (by decide)) T.b_Day_mul pass0) (pe_make T.mk_Day (ok_Day_init T) (hr.mono (by decide)) rfl T.m_Day T.b_Day_init .nil pass0 (pa_cons (pv 3) pa_nil)) pe_int) (nomark _)) (pss_one (ps_ret pe_bl)) pss_nil) (pss_one (ps_if (pt_not (pt_val (pe_call (ok_waits_right T) (hr.mono (by decide)) rfl T.m_waits_right T.f_waits_right.kp T.b_waits_right .nil pass0 (pa_cons (pv 1) (pa_cons (pv 5) (pa_cons (pe_op op_mul (pv 3) (pv 4)) pa_nil)))))) (pss_one (ps_ret pe_bl)) pss_nil)))))))) (pss_one (ps_ret pe_bl)))), ?_⟩
    repeat walk_at "s"
    refine ⟨a, ns, rfl, hS, hn, fun p H1 S1 np pen1 => ?_⟩
    repeat walk_at "s"
    refine ex_rng (n := 7) rfl (by decide) (fun i σ' H' => (∃ v1 v2 v3 v4, σ' = [some (.ref a), some (.ref p), v1, v2, v3, v4]) ∧ Pen p H' (700 - 100 * i)) ⟨⟨_, _, _, _, rfl⟩, pen1.le (by omega)⟩ ?_ ?_
    · rintro i σ' H2 hi ⟨⟨v1, v2, v3, v4, rfl⟩, pen2⟩
      repeat walk_at "s"
      refine ⟨p, _, 700 - 100 * i - 1, rfl, by decide, by decide, pen2.le (by omega), fun d1 H3 G3 pen3 a1 b1 => ?_⟩
      repeat walk_at "s"
      refine ⟨lst_ok rfl, fun z hz => ?_⟩
      refine ⟨p, z, _, 700 - 100 * i - 2, rfl, pen3.at hz, by simp, by simp, (pen3.new hz).le (by omega), fun v H4 G4 pen4 hv => ?_⟩
      have hm : ∃ L : Int, v = .int L ∧ 1 ≤ L ∧ L ≤ 142857142857 := by
        have e1 : (10 : Int) ^ Int.toNat 6 - 3 = 999997 := by decide
        have e2 : (10 : Int) ^ Int.toNat 12 / 7 = 142857142857 := by decide
        rw [e1, e2] at hv
        simp only [List.mem_cons, List.not_mem_nil, or_false] at hv
        rcases hv with rfl | rfl | rfl | rfl | rfl | rfl | rfl
        all_goals exact ⟨_, rfl, by omega, by omega⟩
      obtain ⟨L, rfl, L0, L1⟩ := hm
      repeat walk_at "s"
      refine ⟨p, _, 700 - 100 * i - 3, rfl, by decide, by decide, pen4.le (by omega), fun d2 H5 G5 pen5 a2 b2 => ?_⟩
      repeat walk_at "s"
      refine ⟨lst_ok rfl, fun y hy => ?_⟩
      refine ⟨p, y, _, 700 - 100 * i - 4, rfl, pen5.at hy, by simp, by simp, (pen5.new hy).le (by omega), fun v H6 G6 pen6 hv => ?_⟩
      have hm : ∃ k : Int, v = .int k ∧ 1 ≤ k ∧ k ≤ 7 := by
        simp only [List.mem_cons, List.not_mem_nil, or_false] at hv
        rcases hv with rfl | rfl | rfl | rfl | rfl
        all_goals exact ⟨_, rfl, by omega, by omega⟩
      obtain ⟨k, rfl, k0, k1⟩ := hm
      have hL : 1 ≤ L ∧ L ≤ 1000000000000 := ⟨L0, by omega⟩
      have kl0 : 1 ≤ k * L := by have := Int.mul_le_mul k0 L0 (by omega) (by omega); omega
      have kl1 : k * L ≤ 1000000000000 := by have := Int.mul_le_mul k1 L1 (by omega) (by omega); omega
      repeat walk_at "s"
      refine make_day hL fun b H7 S7 nb db => ?_
      have pen7 := pen6.same S7
      repeat walk_at "s"
      refine ⟨p, b, L, 700 - 100 * i - 20, rfl, db, pen7.le (by omega), fun H8 G8 pen8 => ?_⟩
      repeat walk_at "s"
      refine make_day hL fun c H9 S9 nc dc => ?_
      have pen9 := pen8.same S9
      repeat walk_at "s"
      refine ⟨p, c, L, k, 700 - 100 * i - 50, rfl, dc, ⟨k0, k1⟩, kl1, pen9.le (by omega), fun H10 G10 pen10 => ?_⟩
      repeat walk_at "s"
      refine make_day hL fun e H11 S11 ne' de => ?_
      have pen11 := pen10.same S11
      repeat walk_at "s"
      refine r_dmul de ⟨kl0, kl1⟩ fun f H12 S12 nf df => ?_
      have pen12 := pen11.same S12
      repeat walk_at "s"
      refine make_day hL fun g H13 S13 ng dg => ?_
      have df13 := df.same S13
      have pen13 := pen12.same S13
      repeat walk_at "s"
      refine r_dmul dg ⟨by omega, by omega⟩ fun h H14 S14 nh dh => ?_
      have df14 := df13.same S14
      have pen14 := pen13.same S14
      repeat walk_at "s"
      refine r_rdmul dh ⟨by omega, by omega⟩ fun j H15 S15 nj dj => ?_
      have df15 := df14.same S15
      have pen15 := pen14.same S15
      repeat walk_at "s"
      refine make_day hL fun l H16 S16 nl dl => ?_
      have df16 := df15.same S16
      have dj16 := dj.same S16
      have pen16 := pen15.same S16
      repeat walk_at "s"
      refine r_dmul dl ⟨by omega, by omega⟩ fun m H17 S17 nm dm => ?_
      have df17 := df16.same S17
      have dj17 := dj16.same S17
      have pen17 := pen16.same S17
      repeat walk_at "s"
      refine r_dne T.is_Day dj17 dm ?_
      repeat walk_at "s"
      refine ⟨p, f, k * L, 700 - 100 * (i + 1), by rw [Int.mul_comm], df17, pen17.le (by omega), fun H18 G18 pen18 => ?_⟩
      repeat walk_at "s"
      exact ⟨⟨_, _, _, _, rfl⟩, pen18⟩
    · rintro σ' H' ⟨⟨v1, v2, v3, v4, rfl⟩, _⟩
      repeat walk_at "s"
      exact q _
end
theorem all_mk {P : Program} {w : World} {K : PySem.W.Frag} {h : Heap} {mg : Str → Option Value} {fa : Addr} (X : K.In h) (G : h.Ns mainGlobals mg) (hfa : mg "law" = some (.ref fa))
    {CDay fis_integer fis_between fis_moment flong_by fDay_init fDay_rmod fDay_rfloordiv fDay_forward fDay_mul fDay_rmul fDay_eq fpen fdraw fpick fmoment fwaits_right flong_right flaw : Addr} {od0 an0 od1 an1 od2 an2 od3 an3 od4 an4 od5 an5 od6 an6 od7 an7 od8 an8 od9 an9 od10 an10 od11 an11 od12 an12 od13 an13 od14 an14 od15 an15 od16 an16 od17 an17 : Option Addr} {sl0 sl1 sl2 sl3 sl4 sl5 sl6 sl7 sl8 sl9 sl10 sl11 sl12 sl13 sl14 sl15 sl16 sl17 : Array (Option Value)} {oc0 kV0 dc0 pm0 cd0 ct0 oc1 kV1 dc1 pm1 cd1 ct1 oc2 kV2 dc2 pm2 cd2 ct2 oc3 kV3 dc3 pm3 cd3 ct3 oc4 kV4 dc4 pm4 cd4 ct4 oc5 kV5 dc5 pm5 cd5 ct5 oc6 kV6 dc6 pm6 cd6 ct6 oc7 kV7 dc7 pm7 cd7 ct7 oc8 kV8 dc8 pm8 cd8 ct8 oc9 kV9 dc9 pm9 cd9 ct9 oc10 kV10 dc10 pm10 cd10 ct10 oc11 kV11 dc11 pm11 cd11 ct11 oc12 kV12 dc12 pm12 cd12 ct12 oc13 kV13 dc13 pm13 cd13 ct13 oc14 kV14 dc14 pm14 cd14 ct14 oc15 kV15 dc15 pm15 cd15 ct15 oc16 kV16 dc16 pm16 cd16 ct16 oc17 kV17 dc17 pm17 cd17 ct17 : Value}
    (aCDay : PySem.W.nsIn K mainGlobals "Day" = some (some (.ref CDay)))
    (afis_integer : PySem.W.nsIn K mainGlobals "is_integer" = some (some (.ref fis_integer)))
    (lfis_integer : K.lookup fis_integer = some ⟨oc0, od0, .func (PySem.W.fnOf "is_integer" "is_integer" (defArgs s_is_integer) (defBody s_is_integer) (defScope s_is_integer) .none kV0 dc0 pm0 an0 cd0 ct0), sl0⟩)
    (cfis_integer : PySem.W.codeIn K cd0 "is_integer" = true)
    (kfis_integer : PySem.W.keepIn K (.ref fis_integer) = true)
    (afis_between : PySem.W.nsIn K mainGlobals "is_between" = some (some (.ref fis_between)))
    (lfis_between : K.lookup fis_between = some ⟨oc1, od1, .func (PySem.W.fnOf "is_between" "is_between" (defArgs s_is_between) (defBody s_is_between) (defScope s_is_between) .none kV1 dc1 pm1 an1 cd1 ct1), sl1⟩)
    (cfis_between : PySem.W.codeIn K cd1 "is_between" = true)
    (kfis_between : PySem.W.keepIn K (.ref fis_between) = true)
    (afis_moment : PySem.W.nsIn K mainGlobals "is_moment" = some (some (.ref fis_moment)))
    (lfis_moment : K.lookup fis_moment = some ⟨oc2, od2, .func (PySem.W.fnOf "is_moment" "is_moment" (defArgs s_is_moment) (defBody s_is_moment) (defScope s_is_moment) .none kV2 dc2 pm2 an2 cd2 ct2), sl2⟩)
    (cfis_moment : PySem.W.codeIn K cd2 "is_moment" = true)
    (kfis_moment : PySem.W.keepIn K (.ref fis_moment) = true)
    (aflong_by : PySem.W.nsIn K mainGlobals "long_by" = some (some (.ref flong_by)))
    (lflong_by : K.lookup flong_by = some ⟨oc3, od3, .func (PySem.W.fnOf "long_by" "long_by" (defArgs s_long_by) (defBody s_long_by) (defScope s_long_by) .none kV3 dc3 pm3 an3 cd3 ct3), sl3⟩)
    (cflong_by : PySem.W.codeIn K cd3 "long_by" = true)
    (kflong_by : PySem.W.keepIn K (.ref flong_by) = true)
    (afDay_init : PySem.W.findIn K (.ref CDay) "__init__" = some (some (.ref fDay_init)))
    (ifDay_init : PySem.W.isFn K (.ref fDay_init) = true)
    (lfDay_init : K.lookup fDay_init = some ⟨oc4, od4, .func (PySem.W.fnOf "__init__" "Day.__init__" (defArgs s_Day_init) (defBody s_Day_init) (defScope s_Day_init) .none kV4 dc4 pm4 an4 cd4 ct4), sl4⟩)
    (cfDay_init : PySem.W.codeIn K cd4 "Day.__init__" = true)
    (kfDay_init : PySem.W.keepIn K (.ref fDay_init) = true)
    (afDay_rmod : PySem.W.findIn K (.ref CDay) "__rmod__" = some (some (.ref fDay_rmod)))
    (ifDay_rmod : PySem.W.isFn K (.ref fDay_rmod) = true)
    (lfDay_rmod : K.lookup fDay_rmod = some ⟨oc5, od5, .func (PySem.W.fnOf "__rmod__" "Day.__rmod__" (defArgs s_Day_rmod) (defBody s_Day_rmod) (defScope s_Day_rmod) .none kV5 dc5 pm5 an5 cd5 ct5), sl5⟩)
    (cfDay_rmod : PySem.W.codeIn K cd5 "Day.__rmod__" = true)
    (kfDay_rmod : PySem.W.keepIn K (.ref fDay_rmod) = true)
    (afDay_rfloordiv : PySem.W.findIn K (.ref CDay) "__rfloordiv__" = some (some (.ref fDay_rfloordiv)))
    (ifDay_rfloordiv : PySem.W.isFn K (.ref fDay_rfloordiv) = true)
    (lfDay_rfloordiv : K.lookup fDay_rfloordiv = some ⟨oc6, od6, .func (PySem.W.fnOf "__rfloordiv__" "Day.__rfloordiv__" (defArgs s_Day_rfloordiv) (defBody s_Day_rfloordiv) (defScope s_Day_rfloordiv) .none kV6 dc6 pm6 an6 cd6 ct6), sl6⟩)
    (cfDay_rfloordiv : PySem.W.codeIn K cd6 "Day.__rfloordiv__" = true)
    (kfDay_rfloordiv : PySem.W.keepIn K (.ref fDay_rfloordiv) = true)
    (afDay_forward : PySem.W.findIn K (.ref CDay) "forward" = some (some (.ref fDay_forward)))
    (ifDay_forward : PySem.W.isFn K (.ref fDay_forward) = true)
    (lfDay_forward : K.lookup fDay_forward = some ⟨oc7, od7, .func (PySem.W.fnOf "forward" "Day.forward" (defArgs s_Day_forward) (defBody s_Day_forward) (defScope s_Day_forward) .none kV7 dc7 pm7 an7 cd7 ct7), sl7⟩)
    (cfDay_forward : PySem.W.codeIn K cd7 "Day.forward" = true)
    (kfDay_forward : PySem.W.keepIn K (.ref fDay_forward) = true)
    (afDay_mul : PySem.W.findIn K (.ref CDay) "__mul__" = some (some (.ref fDay_mul)))
    (ifDay_mul : PySem.W.isFn K (.ref fDay_mul) = true)
    (lfDay_mul : K.lookup fDay_mul = some ⟨oc8, od8, .func (PySem.W.fnOf "__mul__" "Day.__mul__" (defArgs s_Day_mul) (defBody s_Day_mul) (defScope s_Day_mul) .none kV8 dc8 pm8 an8 cd8 ct8), sl8⟩)
    (cfDay_mul : PySem.W.codeIn K cd8 "Day.__mul__" = true)
    (kfDay_mul : PySem.W.keepIn K (.ref fDay_mul) = true)
    (afDay_rmul : PySem.W.findIn K (.ref CDay) "__rmul__" = some (some (.ref fDay_rmul)))
    (ifDay_rmul : PySem.W.isFn K (.ref fDay_rmul) = true)
    (lfDay_rmul : K.lookup fDay_rmul = some ⟨oc9, od9, .func (PySem.W.fnOf "__rmul__" "Day.__rmul__" (defArgs s_Day_rmul) (defBody s_Day_rmul) (defScope s_Day_rmul) .none kV9 dc9 pm9 an9 cd9 ct9), sl9⟩)
    (cfDay_rmul : PySem.W.codeIn K cd9 "Day.__rmul__" = true)
    (kfDay_rmul : PySem.W.keepIn K (.ref fDay_rmul) = true)
    (afDay_eq : PySem.W.findIn K (.ref CDay) "__eq__" = some (some (.ref fDay_eq)))
    (ifDay_eq : PySem.W.isFn K (.ref fDay_eq) = true)
    (lfDay_eq : K.lookup fDay_eq = some ⟨oc10, od10, .func (PySem.W.fnOf "__eq__" "Day.__eq__" (defArgs s_Day_eq) (defBody s_Day_eq) (defScope s_Day_eq) .none kV10 dc10 pm10 an10 cd10 ct10), sl10⟩)
    (cfDay_eq : PySem.W.codeIn K cd10 "Day.__eq__" = true)
    (kfDay_eq : PySem.W.keepIn K (.ref fDay_eq) = true)
    (afpen : PySem.W.nsIn K mainGlobals "_law_pen" = some (some (.ref fpen)))
    (lfpen : K.lookup fpen = some ⟨oc11, od11, .func (PySem.W.fnOf "_law_pen" "_law_pen" (defArgs s_pen) (defBody s_pen) (defScope s_pen) .none kV11 dc11 pm11 an11 cd11 ct11), sl11⟩)
    (cfpen : PySem.W.codeIn K cd11 "_law_pen" = true)
    (kfpen : PySem.W.keepIn K (.ref fpen) = true)
    (afdraw : PySem.W.nsIn K mainGlobals "_law_draw" = some (some (.ref fdraw)))
    (lfdraw : K.lookup fdraw = some ⟨oc12, od12, .func (PySem.W.fnOf "_law_draw" "_law_draw" (defArgs s_draw) (defBody s_draw) (defScope s_draw) .none kV12 dc12 pm12 an12 cd12 ct12), sl12⟩)
    (cfdraw : PySem.W.codeIn K cd12 "_law_draw" = true)
    (kfdraw : PySem.W.keepIn K (.ref fdraw) = true)
    (afpick : PySem.W.nsIn K mainGlobals "_law_pick" = some (some (.ref fpick)))
    (lfpick : K.lookup fpick = some ⟨oc13, od13, .func (PySem.W.fnOf "_law_pick" "_law_pick" (defArgs s_pick) (defBody s_pick) (defScope s_pick) .none kV13 dc13 pm13 an13 cd13 ct13), sl13⟩)
    (cfpick : PySem.W.codeIn K cd13 "_law_pick" = true)
    (kfpick : PySem.W.keepIn K (.ref fpick) = true)
    (afmoment : PySem.W.nsIn K mainGlobals "_law_moment" = some (some (.ref fmoment)))
    (lfmoment : K.lookup fmoment = some ⟨oc14, od14, .func (PySem.W.fnOf "_law_moment" "_law_moment" (defArgs s_moment) (defBody s_moment) (defScope s_moment) .none kV14 dc14 pm14 an14 cd14 ct14), sl14⟩)
    (cfmoment : PySem.W.codeIn K cd14 "_law_moment" = true)
    (kfmoment : PySem.W.keepIn K (.ref fmoment) = true)
    (afwaits_right : PySem.W.nsIn K mainGlobals "_law_waits_right" = some (some (.ref fwaits_right)))
    (lfwaits_right : K.lookup fwaits_right = some ⟨oc15, od15, .func (PySem.W.fnOf "_law_waits_right" "_law_waits_right" (defArgs s_waits_right) (defBody s_waits_right) (defScope s_waits_right) .none kV15 dc15 pm15 an15 cd15 ct15), sl15⟩)
    (cfwaits_right : PySem.W.codeIn K cd15 "_law_waits_right" = true)
    (kfwaits_right : PySem.W.keepIn K (.ref fwaits_right) = true)
    (aflong_right : PySem.W.nsIn K mainGlobals "_law_long_right" = some (some (.ref flong_right)))
    (lflong_right : K.lookup flong_right = some ⟨oc16, od16, .func (PySem.W.fnOf "_law_long_right" "_law_long_right" (defArgs s_long_right) (defBody s_long_right) (defScope s_long_right) .none kV16 dc16 pm16 an16 cd16 ct16), sl16⟩)
    (cflong_right : PySem.W.codeIn K cd16 "_law_long_right" = true)
    (kflong_right : PySem.W.keepIn K (.ref flong_right) = true)
    (aflaw : PySem.W.nsIn K mainGlobals "law" = some (some (.ref flaw)))
    (lflaw : K.lookup flaw = some ⟨oc17, od17, .func (PySem.W.fnOf "law" "law" (defArgs s_law) (defBody s_law) (defScope s_law) .none kV17 dc17 pm17 an17 cd17 ct17), sl17⟩)
    (cflaw : PySem.W.codeIn K cd17 "law" = true)
    (kflaw : PySem.W.keepIn K (.ref flaw) = true)
    (pgCDay : PySem.W.plainGet K CDay Str.empty = true)
    (hdCDay : PySem.W.hasDictIn K CDay = true)
    (poCDay : PySem.W.plainOver K CDay = true)
    (saCDay : PySem.W.findIn K (.ref CDay) "__setattr__" = some (some (.builtin "object.__setattr__")))
    (mkCDay : PySem.W.makesIn K CDay = true)
    (kcCDay : PySem.W.keepIn K (.ref CDay) = true)
    (icCDay : PySem.W.findIn K (.ref CDay) "__class__" = some (some (.builtin "object.__class__")))
    (igCDay : PySem.W.specialIn K (.builtin "object.__class__") "__get__" = some (some (.builtin "getset_descriptor.__get__")))
    (itCDay : PySem.W.takesIn K (.builtin "object.__class__") = some true)
    (imCDay : PySem.W.mroIn K CDay (.type "object") = some true)
    (sfCDay : PySem.W.selfFirst K CDay = true)
    (naDaylength : PySem.W.findIn K (.ref CDay) "length" = some none)
    (reDayFloorDivo : PySem.W.findIn K (.ref CDay) (PySem.dunder "floordiv") = some none)
    (reDayFloorDivr : PySem.W.findIn K (.ref CDay) (PySem.dunderR "floordiv") = some (some (.ref fDay_rfloordiv)))
    (reDayFloorDivs : PySem.W.subIn K (.ref CDay) (.type "int") = some false)
    (reDayModo : PySem.W.findIn K (.ref CDay) (PySem.dunder "mod") = some none)
    (reDayModr : PySem.W.findIn K (.ref CDay) (PySem.dunderR "mod") = some (some (.ref fDay_rmod)))
    (reDayMods : PySem.W.subIn K (.ref CDay) (.type "int") = some false)
    (reDayMulto : PySem.W.findIn K (.ref CDay) (PySem.dunder "mul") = some (some (.ref fDay_mul)))
    (reDayMultr : PySem.W.findIn K (.ref CDay) (PySem.dunderR "mul") = some (some (.ref fDay_rmul)))
    (reDayMults : PySem.W.subIn K (.ref CDay) (.type "int") = some false)
    (owDayMultinto : PySem.W.findIn K (.ref CDay) (PySem.dunder "mul") = some (some (.ref fDay_mul)))
    (owDayMultintr : PySem.W.findIn K (.ref CDay) (PySem.dunderR "mul") = some (some (.ref fDay_rmul)))
    {foowDayMultint roowDayMultint : Option Value}
    (owDayMultint1 : PySem.W.findIn K (.type "int") (PySem.dunder "mul") = some foowDayMultint)
    (owDayMultint2 : PySem.W.findIn K (.type "int") (PySem.dunderR "mul") = some roowDayMultint)
    (owDayMultints : PySem.W.subIn K (.type "int") (.ref CDay) = some false)
    (neDay : PySem.W.findIn K (.ref CDay) "__ne__" = some (some (.builtin "object.__ne__")))
    {tkMOST_LENGTH : Tok}
    (gMOST_LENGTH : PySem.W.nsIn K mainGlobals "MOST_LENGTH" = some (some (.int 1000000000000 tkMOST_LENGTH)))
    (nabs : PySem.W.nsIn K mainGlobals "abs" = some none)
    (nbool : PySem.W.nsIn K mainGlobals "bool" = some none)
    (nint : PySem.W.nsIn K mainGlobals "int" = some none)
    (nisinstance : PySem.W.nsIn K mainGlobals "isinstance" = some none)
    (nlen : PySem.W.nsIn K mainGlobals "len" = some none)
    (nlist : PySem.W.nsIn K mainGlobals "list" = some none)
    (nrange : PySem.W.nsIn K mainGlobals "range" = some none)
    : ∃ fd : FuncData, (∀ (s : Shared) (v : Value), BindsTo s fd ⟨[v], []⟩ [("_law_script", v)]) ∧ ∀ base : Heap, K.In base → base.Ns mainGlobals mg → FnOk P w K mg base CX0 7 fa fd ["_law_script"] (spLaw K) := by
  have e := hfa.symm.trans (PySem.W.mg_of X G aflaw)
  cases e
  have T : Txt K mg ⟨CDay, fis_integer, fis_between, fis_moment, flong_by, fDay_init, fDay_rmod, fDay_rfloordiv, fDay_forward, fDay_mul, fDay_rmul, fDay_eq, fpen, fdraw, fpick, fmoment, fwaits_right, flong_right, fa⟩ ⟨PySem.W.fnOf "is_integer" "is_integer" (defArgs s_is_integer) (defBody s_is_integer) (defScope s_is_integer) .none kV0 dc0 pm0 an0 cd0 ct0, PySem.W.fnOf "is_between" "is_between" (defArgs s_is_between) (defBody s_is_between) (defScope s_is_between) .none kV1 dc1 pm1 an1 cd1 ct1, PySem.W.fnOf "is_moment" "is_moment" (defArgs s_is_moment) (defBody s_is_moment) (defScope s_is_moment) .none kV2 dc2 pm2 an2 cd2 ct2, PySem.W.fnOf "long_by" "long_by" (defArgs s_long_by) (defBody s_long_by) (defScope s_long_by) .none kV3 dc3 pm3 an3 cd3 ct3, PySem.W.fnOf "__init__" "Day.__init__" (defArgs s_Day_init) (defBody s_Day_init) (defScope s_Day_init) .none kV4 dc4 pm4 an4 cd4 ct4, PySem.W.fnOf "__rmod__" "Day.__rmod__" (defArgs s_Day_rmod) (defBody s_Day_rmod) (defScope s_Day_rmod) .none kV5 dc5 pm5 an5 cd5 ct5, PySem.W.fnOf "__rfloordiv__" "Day.__rfloordiv__" (defArgs s_Day_rfloordiv) (defBody s_Day_rfloordiv) (defScope s_Day_rfloordiv) .none kV6 dc6 pm6 an6 cd6 ct6, PySem.W.fnOf "forward" "Day.forward" (defArgs s_Day_forward) (defBody s_Day_forward) (defScope s_Day_forward) .none kV7 dc7 pm7 an7 cd7 ct7, PySem.W.fnOf "__mul__" "Day.__mul__" (defArgs s_Day_mul) (defBody s_Day_mul) (defScope s_Day_mul) .none kV8 dc8 pm8 an8 cd8 ct8, PySem.W.fnOf "__rmul__" "Day.__rmul__" (defArgs s_Day_rmul) (defBody s_Day_rmul) (defScope s_Day_rmul) .none kV9 dc9 pm9 an9 cd9 ct9, PySem.W.fnOf "__eq__" "Day.__eq__" (defArgs s_Day_eq) (defBody s_Day_eq) (defScope s_Day_eq) .none kV10 dc10 pm10 an10 cd10 ct10, PySem.W.fnOf "_law_pen" "_law_pen" (defArgs s_pen) (defBody s_pen) (defScope s_pen) .none kV11 dc11 pm11 an11 cd11 ct11, PySem.W.fnOf "_law_draw" "_law_draw" (defArgs s_draw) (defBody s_draw) (defScope s_draw) .none kV12 dc12 pm12 an12 cd12 ct12, PySem.W.fnOf "_law_pick" "_law_pick" (defArgs s_pick) (defBody s_pick) (defScope s_pick) .none kV13 dc13 pm13 an13 cd13 ct13, PySem.W.fnOf "_law_moment" "_law_moment" (defArgs s_moment) (defBody s_moment) (defScope s_moment) .none kV14 dc14 pm14 an14 cd14 ct14, PySem.W.fnOf "_law_waits_right" "_law_waits_right" (defArgs s_waits_right) (defBody s_waits_right) (defScope s_waits_right) .none kV15 dc15 pm15 an15 cd15 ct15, PySem.W.fnOf "_law_long_right" "_law_long_right" (defArgs s_long_right) (defBody s_long_right) (defScope s_long_right) .none kV16 dc16 pm16 an16 cd16 ct16, PySem.W.fnOf "law" "law" (defArgs s_law) (defBody s_law) (defScope s_law) .none kV17 dc17 pm17 an17 cd17 ct17⟩ := {
    m_is_integer := PySem.W.mg_of X G afis_integer,
    f_is_integer := fun_mk (st := s_is_integer) lfis_integer cfis_integer kfis_integer,
    b_is_integer := (fun_mk (st := s_is_integer) lfis_integer cfis_integer kfis_integer).binds (ps := ["value"]) fun _ _ _ _ _ _ us hl => match us, hl with | [_], _ => rfl,
    m_is_between := PySem.W.mg_of X G afis_between,
    f_is_between := fun_mk (st := s_is_between) lfis_between cfis_between kfis_between,
    b_is_between := (fun_mk (st := s_is_between) lfis_between cfis_between kfis_between).binds (ps := ["value", "low", "high"]) fun _ _ _ _ _ _ us hl => match us, hl with | [_, _, _], _ => rfl,
    m_is_moment := PySem.W.mg_of X G afis_moment,
    f_is_moment := fun_mk (st := s_is_moment) lfis_moment cfis_moment kfis_moment,
    b_is_moment := (fun_mk (st := s_is_moment) lfis_moment cfis_moment kfis_moment).binds (ps := ["value"]) fun _ _ _ _ _ _ us hl => match us, hl with | [_], _ => rfl,
    m_long_by := PySem.W.mg_of X G aflong_by,
    f_long_by := fun_mk (st := s_long_by) lflong_by cflong_by kflong_by,
    b_long_by := (fun_mk (st := s_long_by) lflong_by cflong_by kflong_by).binds (ps := ["length", "k"]) fun _ _ _ _ _ _ us hl => match us, hl with | [_, _], _ => rfl,
    f_Day_init := fun_mk (st := s_Day_init) lfDay_init cfDay_init kfDay_init,
    b_Day_init := (fun_mk (st := s_Day_init) lfDay_init cfDay_init kfDay_init).binds (ps := ["self", "length"]) fun _ _ _ _ _ _ us hl => match us, hl with | [_, _], _ => rfl,
    f_Day_rmod := fun_mk (st := s_Day_rmod) lfDay_rmod cfDay_rmod kfDay_rmod,
    b_Day_rmod := (fun_mk (st := s_Day_rmod) lfDay_rmod cfDay_rmod kfDay_rmod).binds (ps := ["self", "moment"]) fun _ _ _ _ _ _ us hl => match us, hl with | [_, _], _ => rfl,
    f_Day_rfloordiv := fun_mk (st := s_Day_rfloordiv) lfDay_rfloordiv cfDay_rfloordiv kfDay_rfloordiv,
    b_Day_rfloordiv := (fun_mk (st := s_Day_rfloordiv) lfDay_rfloordiv cfDay_rfloordiv kfDay_rfloordiv).binds (ps := ["self", "moment"]) fun _ _ _ _ _ _ us hl => match us, hl with | [_, _], _ => rfl,
    f_Day_forward := fun_mk (st := s_Day_forward) lfDay_forward cfDay_forward kfDay_forward,
    b_Day_forward := (fun_mk (st := s_Day_forward) lfDay_forward cfDay_forward kfDay_forward).binds (ps := ["self", "a", "b"]) fun _ _ _ _ _ _ us hl => match us, hl with | [_, _, _], _ => rfl,
    f_Day_mul := fun_mk (st := s_Day_mul) lfDay_mul cfDay_mul kfDay_mul,
    b_Day_mul := (fun_mk (st := s_Day_mul) lfDay_mul cfDay_mul kfDay_mul).binds (ps := ["self", "k"]) fun _ _ _ _ _ _ us hl => match us, hl with | [_, _], _ => rfl,
    f_Day_rmul := fun_mk (st := s_Day_rmul) lfDay_rmul cfDay_rmul kfDay_rmul,
    b_Day_rmul := (fun_mk (st := s_Day_rmul) lfDay_rmul cfDay_rmul kfDay_rmul).binds (ps := ["self", "k"]) fun _ _ _ _ _ _ us hl => match us, hl with | [_, _], _ => rfl,
    f_Day_eq := fun_mk (st := s_Day_eq) lfDay_eq cfDay_eq kfDay_eq,
    b_Day_eq := (fun_mk (st := s_Day_eq) lfDay_eq cfDay_eq kfDay_eq).binds (ps := ["self", "other"]) fun _ _ _ _ _ _ us hl => match us, hl with | [_, _], _ => rfl,
    m_pen := PySem.W.mg_of X G afpen,
    f_pen := fun_mk (st := s_pen) lfpen cfpen kfpen,
    b_pen := (fun_mk (st := s_pen) lfpen cfpen kfpen).binds (ps := ["_law_script"]) fun _ _ _ _ _ _ us hl => match us, hl with | [_], _ => rfl,
    m_draw := PySem.W.mg_of X G afdraw,
    f_draw := fun_mk (st := s_draw) lfdraw cfdraw kfdraw,
    b_draw := (fun_mk (st := s_draw) lfdraw cfdraw kfdraw).binds (ps := ["_law_pen_here", "_law_many"]) fun _ _ _ _ _ _ us hl => match us, hl with | [_, _], _ => rfl,
    m_pick := PySem.W.mg_of X G afpick,
    f_pick := fun_mk (st := s_pick) lfpick cfpick kfpick,
    b_pick := (fun_mk (st := s_pick) lfpick cfpick kfpick).binds (ps := ["_law_pen_here", "_law_some"]) fun _ _ _ _ _ _ us hl => match us, hl with | [_, _], _ => rfl,
    m_moment := PySem.W.mg_of X G afmoment,
    f_moment := fun_mk (st := s_moment) lfmoment cfmoment kfmoment,
    b_moment := (fun_mk (st := s_moment) lfmoment cfmoment kfmoment).binds (ps := ["_law_pen_here", "_law_size"]) fun _ _ _ _ _ _ us hl => match us, hl with | [_, _], _ => rfl,
    m_waits_right := PySem.W.mg_of X G afwaits_right,
    f_waits_right := fun_mk (st := s_waits_right) lfwaits_right cfwaits_right kfwaits_right,
    b_waits_right := (fun_mk (st := s_waits_right) lfwaits_right cfwaits_right kfwaits_right).binds (ps := ["_law_pen_here", "_law_day", "_law_size"]) fun _ _ _ _ _ _ us hl => match us, hl with | [_, _, _], _ => rfl,
    m_long_right := PySem.W.mg_of X G aflong_right,
    f_long_right := fun_mk (st := s_long_right) lflong_right cflong_right kflong_right,
    b_long_right := (fun_mk (st := s_long_right) lflong_right cflong_right kflong_right).binds (ps := ["_law_pen_here", "_law_day", "_law_size", "_law_many"]) fun _ _ _ _ _ _ us hl => match us, hl with | [_, _, _, _], _ => rfl,
    m_law := PySem.W.mg_of X G aflaw,
    f_law := fun_mk (st := s_law) lflaw cflaw kflaw,
    b_law := (fun_mk (st := s_law) lflaw cflaw kflaw).binds (ps := ["_law_script"]) fun _ _ _ _ _ _ us hl => match us, hl with | [_], _ => rfl,
    m_Day := PySem.W.mg_of X G aCDay,
    cl_Day := ⟨pgCDay, hdCDay, poCDay, saCDay⟩,
    mk_Day := ⟨mkCDay, afDay_init, ifDay_init, kcCDay⟩,
    na_Day_length := naDaylength,
    me_Day_rmod := ⟨afDay_rmod, ifDay_rmod, kfDay_rmod⟩,
    me_Day_rfloordiv := ⟨afDay_rfloordiv, ifDay_rfloordiv, kfDay_rfloordiv⟩,
    me_Day_forward := ⟨afDay_forward, ifDay_forward, kfDay_forward⟩,
    me_Day_mul := ⟨afDay_mul, ifDay_mul, kfDay_mul⟩,
    me_Day_rmul := ⟨afDay_rmul, ifDay_rmul, kfDay_rmul⟩,
    me_Day_eq := ⟨afDay_eq, ifDay_eq, kfDay_eq⟩,
    re_Day_FloorDiv := ⟨sfCDay, ⟨_, reDayFloorDivo, .inl rfl⟩, reDayFloorDivr, ifDay_rfloordiv, reDayFloorDivs⟩,
    re_Day_Mod := ⟨sfCDay, ⟨_, reDayModo, .inl rfl⟩, reDayModr, ifDay_rmod, reDayMods⟩,
    re_Day_Mult := ⟨sfCDay, ⟨_, reDayMulto, .inr ⟨_, rfl⟩⟩, reDayMultr, ifDay_rmul, reDayMults⟩,
    ow_Day_Mult_int := ⟨sfCDay, owDayMultinto, ifDay_mul, ⟨_, owDayMultintr, .inr ⟨_, rfl⟩⟩, ⟨_, owDayMultint1⟩, ⟨_, owDayMultint2⟩, owDayMultints⟩,
    co_Day_Eq := ⟨afDay_eq, ifDay_eq⟩,
    ne_Day := ⟨afDay_eq, ifDay_eq, neDay, imCDay⟩,
    is_Day := ⟨⟨pgCDay, hdCDay, poCDay, saCDay⟩, icCDay, igCDay, itCDay, imCDay⟩,
    g_MOST_LENGTH := ⟨_, PySem.W.mg_of X G gMOST_LENGTH⟩,
    n_abs := PySem.W.mg_none_of X G nabs,
    n_bool := PySem.W.mg_none_of X G nbool,
    n_int := PySem.W.mg_none_of X G nint,
    n_isinstance := PySem.W.mg_none_of X G nisinstance,
    n_len := PySem.W.mg_none_of X G nlen,
    n_list := PySem.W.mg_none_of X G nlist,
    n_range := PySem.W.mg_none_of X G nrange }
  exact ⟨PySem.W.fnOf "law" "law" (defArgs s_law) (defBody s_law) (defScope s_law) .none kV17 dc17 pm17 an17 cd17 ct17, fun s v => .of_eq rfl, fun base _ _ => ok_law T⟩
theorem walk {l : PySem.W.OpenLaw} {q : Program} {loose : List Str} {XP : (Str → Option Value) → Heap → Prop} {YP : World → Heap → Prop} {d : DefRec} {K : Params → PySem.W.Frag} (hn : l.most = some 63) (hdf : d.params.defaults = [])
    (hY : ∀ (w : World) (h : Heap), YP w h → (K w.params).In h)
    (F : ∀ (w : World) (mg : Str → Option Value) (fa : Addr) (h : Heap), (K w.params).In h → h.Ns mainGlobals mg → mg d.name = some (.ref fa) →
      ∃ fd : FuncData, (∀ (s : Shared) (u : Value), BindsTo s fd ⟨[u], []⟩ [("_law_script", u)]) ∧ ∀ base : Heap, (K w.params).In base → base.Ns mainGlobals mg → FnOk l.prog w (K w.params) mg base CX0 7 fa fd ["_law_script"] (spLaw (K w.params))) :
    PySem.W.WalkO q loose XP YP l.row.toRowW d [] (fun f vs => PySem.call f vs) :=
  L2.walk_of (n := 63) (k := 7) (x := "_law_script") (CX := fun _ => CX0) (sp := fun w => spLaw (K w.params)) hn (by decide) hdf ⟨rfl, by decide, by decide⟩ hY F (fun _ _ a ns hl _ hS => ⟨a, ns, rfl, hS, hl, fun _ => rfl⟩) fun _ _ _ _ _ z => z
end Ol
open PySem PySem.W PyProof.Rows in
set_option maxRecDepth 100000 in
set_option maxHeartbeats 0 in
theorem PySem.Challenge.cw_onelongturn_k04_whole_days_that_come_rou_holds : PySem.Challenge.rw_onelongturn_k04_whole_days_that_come_rou.Holds := by
  w_on; o_law; k_head; (case hw => w_witness2)
  k_fill
  refine Ol.walk (l := PySem.Challenge.rw_onelongturn_k04_whole_days_that_come_rou) rfl rfl (fun w h Y => PySem.W.kIn_of Y) ?F
  case F =>
    intro w mg fa h KX G hmg
    refine' Ol.all_mk KX G hmg ?aCDay ?afis_integer ?lfis_integer ?cfis_integer ?kfis_integer ?afis_between ?lfis_between ?cfis_between ?kfis_between ?afis_moment ?lfis_moment ?cfis_moment ?kfis_moment ?aflong_by ?lflong_by ?cflong_by ?kflong_by ?afDay_init ?ifDay_init ?lfDay_init ?cfDay_init ?kfDay_init ?afDay_rmod ?ifDay_rmod ?lfDay_rmod ?cfDay_rmod ?kfDay_rmod ?afDay_rfloordiv ?ifDay_rfloordiv ?lfDay_rfloordiv ?cfDay_rfloordiv ?kfDay_rfloordiv ?afDay_forward ?ifDay_forward ?lfDay_forward ?cfDay_forward ?kfDay_forward ?afDay_mul ?ifDay_mul ?lfDay_mul ?cfDay_mul ?kfDay_mul ?afDay_rmul ?ifDay_rmul ?lfDay_rmul ?cfDay_rmul ?kfDay_rmul ?afDay_eq ?ifDay_eq ?lfDay_eq ?cfDay_eq ?kfDay_eq ?afpen ?lfpen ?cfpen ?kfpen ?afdraw ?lfdraw ?cfdraw ?kfdraw ?afpick ?lfpick ?cfpick ?kfpick ?afmoment ?lfmoment ?cfmoment ?kfmoment ?afwaits_right ?lfwaits_right ?cfwaits_right ?kfwaits_right ?aflong_right ?lflong_right ?cflong_right ?kflong_right ?aflaw ?lflaw ?cflaw ?kflaw ?pgCDay ?hdCDay ?poCDay ?saCDay ?mkCDay ?kcCDay ?icCDay ?igCDay ?itCDay ?imCDay ?sfCDay ?naDaylength ?reDayFloorDivo ?reDayFloorDivr ?reDayFloorDivs ?reDayModo ?reDayModr ?reDayMods ?reDayMulto ?reDayMultr ?reDayMults ?owDayMultinto ?owDayMultintr ?owDayMultint1 ?owDayMultint2 ?owDayMultints ?neDay ?gMOST_LENGTH ?nabs ?nbool ?nint ?nisinstance ?nlen ?nlist ?nrange
    (case aCDay => k_is)
    (case afis_integer => k_is)
    (case lfis_integer => k_is)
    (case cfis_integer => k_is)
    (case kfis_integer => k_is)
    (case afis_between => k_is)
    (case lfis_between => k_is)
    (case cfis_between => k_is)
    (case kfis_between => k_is)
    (case afis_moment => k_is)
    (case lfis_moment => k_is)
    (case cfis_moment => k_is)
    (case kfis_moment => k_is)
    (case aflong_by => k_is)
    (case lflong_by => k_is)
    (case cflong_by => k_is)
    (case kflong_by => k_is)
    (case afDay_init => k_is)
    (case ifDay_init => k_is)
    (case lfDay_init => k_is)
    (case cfDay_init => k_is)
    (case kfDay_init => k_is)
    (case afDay_rmod => k_is)
    (case ifDay_rmod => k_is)
    (case lfDay_rmod => k_is)
    (case cfDay_rmod => k_is)
    (case kfDay_rmod => k_is)
    (case afDay_rfloordiv => k_is)
    (case ifDay_rfloordiv => k_is)
    (case lfDay_rfloordiv => k_is)
    (case cfDay_rfloordiv => k_is)
    (case kfDay_rfloordiv => k_is)
    (case afDay_forward => k_is)
    (case ifDay_forward => k_is)
    (case lfDay_forward => k_is)
    (case cfDay_forward => k_is)
    (case kfDay_forward => k_is)
    (case afDay_mul => k_is)
    (case ifDay_mul => k_is)
    (case lfDay_mul => k_is)
    (case cfDay_mul => k_is)
    (case kfDay_mul => k_is)
    (case afDay_rmul => k_is)
    (case ifDay_rmul => k_is)
    (case lfDay_rmul => k_is)
    (case cfDay_rmul => k_is)
    (case kfDay_rmul => k_is)
    (case afDay_eq => k_is)
    (case ifDay_eq => k_is)
    (case lfDay_eq => k_is)
    (case cfDay_eq => k_is)
    (case kfDay_eq => k_is)
    (case afpen => k_is)
    (case lfpen => k_is)
    (case cfpen => k_is)
    (case kfpen => k_is)
    (case afdraw => k_is)
    (case lfdraw => k_is)
    (case cfdraw => k_is)
    (case kfdraw => k_is)
    (case afpick => k_is)
    (case lfpick => k_is)
    (case cfpick => k_is)
    (case kfpick => k_is)
    (case afmoment => k_is)
    (case lfmoment => k_is)
    (case cfmoment => k_is)
    (case kfmoment => k_is)
    (case afwaits_right => k_is)
    (case lfwaits_right => k_is)
    (case cfwaits_right => k_is)
    (case kfwaits_right => k_is)
    (case aflong_right => k_is)
    (case lflong_right => k_is)
    (case cflong_right => k_is)
    (case kflong_right => k_is)
    (case aflaw => k_is)
    (case lflaw => k_is)
    (case cflaw => k_is)
    (case kflaw => k_is)
    (case pgCDay => k_is)
    (case hdCDay => k_is)
    (case poCDay => k_is)
    (case saCDay => k_is)
    (case mkCDay => k_is)
    (case kcCDay => k_is)
    (case icCDay => k_is)
    (case igCDay => k_is)
    (case itCDay => k_is)
    (case imCDay => k_is)
    (case sfCDay => k_is)
    (case naDaylength => k_is)
    (case reDayFloorDivo => k_is)
    (case reDayFloorDivr => k_is)
    (case reDayFloorDivs => k_is)
    (case reDayModo => k_is)
    (case reDayModr => k_is)
    (case reDayMods => k_is)
    (case reDayMulto => k_is)
    (case reDayMultr => k_is)
    (case reDayMults => k_is)
    (case owDayMultinto => k_is)
    (case owDayMultintr => k_is)
    (case owDayMultint1 => k_is)
    (case owDayMultint2 => k_is)
    (case owDayMultints => k_is)
    (case neDay => k_is)
    (case gMOST_LENGTH => k_is)
    (case nabs => k_is)
    (case nbool => k_is)
    (case nint => k_is)
    (case nisinstance => k_is)
    (case nlen => k_is)
    (case nlist => k_is)
    (case nrange => k_is)
#print axioms PySem.Challenge.cw_onelongturn_k04_whole_days_that_come_rou_holds


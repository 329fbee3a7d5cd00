import PyProof.Rows.All
import Wide.All
import OpenK.AllK
import Wide.FinOn
import HandS.ForMost
import HandS.Wide
import KE.KOpsOwn
import HandS.IsInst
import HandS.Style
import HandS.Flow
import HandS.TupLe
import HandS.Evl
import PyProof.ReprRoads
import HandS.MakeKwOnly
import HandS.ClsMeth
import KE.KCallOwn
import PyProof.EqAt
import HandS.ExcInit
import HandS.ExcSuper
import KE.KExcSuper
import KE.KSuper
import HandS.ExcField
import HandS.ExcIs
import HandS.ExcOwn
import HandS.Lambda
import KE.KExcIs
import HandS.EndTab
import HandS.Walk
import HandS.FStr
import HandS.WordsExc
import HandS.NoneIn
import HandS.TupAny
import HandS.OwnEq
import HandS.DeepEq
import HandS.Star
import HandS.Property
import HandS.IterVal
import HandS.SortInts
import KE.DataCmp
import KE.GoesMore
import PySem.Challenge.RW_onelongturn_k54_stairs_of_parts
set_option Elab.async false
set_option linter.all false
set_option maxRecDepth 100000
set_option maxHeartbeats 4000000
namespace Ol
open PySem PySem.W PySem.Calls PyProof.Rows L2
section
variable {prog : Program} {w : World} {M : Model} {A : Around} {E : Value → Shared → Prop} {s : Shared} {K : Frag} {x C L f : Addr} {ox : Obj} {od : Option Obj} {nm T : String}

/-- an int's own method lets an instance be -/
def Lets (id : String) : Prop := ∀ (prog : Program) (w : World) (A : Around) (E : Value → Shared → Prop) (s : Shared) (x C dx : Addr) (i : Int) (t : Tok) (Q : Value → Shared → Prop),
  s.heap.get? x = some (instObj C dx) → Q .notImplemented s → wpAny (model prog w) A (call (.builtin id) [.int i t, .ref x]) Q E s
theorem lets_mod : Lets "int.__mod__" := by
  intro prog w A E s x C dx i t Q hx h
  refine wpAny_call_entry F.slot_int_mod (typeIs_int s i t) F.entry_int_mod ?_ (F.args_int_mod_2 _ _)
  obtain ⟨hp, g, d, tk, os⟩ := s
  unfold Builtin.«int.__mod__»
  wp_walk
  exact ⟨_, rfl, h⟩
theorem lets_fdiv : Lets "int.__floordiv__" := by
  intro prog w A E s x C dx i t Q hx h
  refine wpAny_call_entry F.slot_int_floordiv (typeIs_int s i t) F.entry_int_floordiv ?_ (F.args_int_floordiv_2 _ _)
  obtain ⟨hp, g, d, tk, os⟩ := s
  unfold Builtin.«int.__floordiv__»
  wp_walk
  exact ⟨_, rfl, h⟩
theorem lets_mul : Lets "int.__mul__" := by
  intro prog w A E s x C dx i t Q hx h
  refine wpAny_call_entry F.slot_int_mul (typeIs_int s i t) F.entry_int_mul ?_ (F.args_int_mul_2 _ _)
  obtain ⟨hp, g, d, tk, os⟩ := s
  unfold Builtin.«int.__mul__»
  wp_walk
  exact ⟨_, rfl, h⟩
theorem lets_add : Lets "int.__add__" := by
  intro prog w A E s x C dx i t Q hx h
  refine wpAny_call_entry F.slot_int_add (typeIs_int s i t) F.entry_int_add ?_ (F.args_int_add_2 _ _)
  obtain ⟨hp, g, d, tk, os⟩ := s
  unfold Builtin.«int.__add__»
  wp_walk
  exact ⟨_, rfl, h⟩

theorem fills_R {h : Heap} {cd : ClassData} {rest : List Value} {fo : Option Value} (X : K.In h) (hc : clsIn K C = some cd) (hm : cd.mro = .ref C :: rest)
    (hs : findIn K (.ref C) (PySem.dunder nm) = some fo) (hp : fo = none ∨ ∃ g : Addr, fo = some (.ref g)) (hr : findIn K (.ref C) (dunderR nm) = some (some (.ref f))) : Looks M h (fillsNumberSlot (.ref C) nm) true := by
  rcases hp with rfl | ⟨g, rfl⟩
  · intro A Q E s k q
    unfold fillsNumberSlot
    refine wpAny_bind ((looks_clsIn X hc).andThen (f := fun cd => pure cd.mro) .now A _ E s k ?_)
    rw [hm, List.anyM_cons]
    refine wpAny_bind ?_
    show wpAny M A (List.anyM _ [PySem.dunder nm, dunderR nm]) _ _ _
    rw [List.anyM_cons]
    refine wpAny_bind (wpAny_bind (looks_findIn X hs A _ E s k ?_))
    dsimp only
    refine wpAny_pure ?_
    rw [if_neg (show ¬ (false = true) from Bool.false_ne_true), List.anyM_cons]
    refine wpAny_bind (wpAny_bind (looks_findIn X hr A _ E s k ?_))
    dsimp only
    rw [if_pos (show (!ownNameWrapper (.ref f) (PySem.dunderR nm)) = true from rfl)]
    refine wpAny_pure ?_
    rw [if_pos rfl]
    refine wpAny_pure ?_
    rw [if_pos rfl]
    exact wpAny_pure q
  · exact fills_K X hc hm hs

theorem refl_int {op : Operator} {i : Int} {t : Tok} {id : String} {dx : Addr} {fo : Option Value} {Q : Value → Shared → Prop} (X : K.In s.heap) (I : InstAt s.heap x ox C od) (hx : s.heap.get? x = some (instObj C dx)) (hc : selfFirst K C = true)
    (fl : fillsNumberSlot (.type "int") op.info.2 = pure true) (sl : Slot "int" (PySem.dunder op.info.2) id) (lt : Lets id)
    (hs : findIn K (.ref C) (PySem.dunder op.info.2) = some fo) (hp : fo = none ∨ ∃ g : Addr, fo = some (.ref g)) (hr : findIn K (.ref C) (dunderR op.info.2) = some (some (.ref f))) (hf : isFn K (.ref f) = true) (hsub : subIn K (.ref C) (.type "int") = some false)
    (h : wpAny (model prog w) A (call (.ref f) [.ref x, .int i t]) (W.CmpBack Q) E s) : wpAny (model prog w) A (binaryOp op (.int i t) (.ref x)) Q E s := by
  obtain ⟨cd, rest, hcd, hm⟩ := ksp_first hc
  rcases hi : op.info with ⟨sym, nm'⟩
  rw [hi] at hs hr fl sl
  dsimp only at hs hr fl sl
  have one := ksp_try X I hr hf h
  have two : ∀ Q' : Option Value → Shared → Prop, Q' none s → wpAny (model prog w) A (tryMethod (.int i t) (PySem.dunder nm') (.ref x)) Q' E s := fun Q' q =>
    wpAny_tryMethod_declines (typeIs_int s i t) sl (lt _ _ _ _ _ _ _ _ _ _ _ hx ⟨rfl, q⟩)
  obtain ⟨hh, g, d, tt, os⟩ := s
  have L1 : Looks (model prog w) hh (typeOf (.int i t)) (.type "int") := Looks.of_pure rfl
  have L2 : Looks (model prog w) hh (typeOf (.ref x)) (.ref C) := I.type
  have L3 : Looks (model prog w) hh (fillsNumberSlot (.type "int") nm') true := Looks.of_pure fl
  have L4 : Looks (model prog w) hh (fillsNumberSlot (.ref C) nm') true := fills_R X hcd hm hs hp hr
  have L5 : Looks (model prog w) hh (isSubtype (.ref C) (.type "int")) false := looks_subIn X hsub
  have L7 : Looks (model prog w) hh (numberSlotInPython (.type "int") nm') false := Looks.of_pure rfl
  have hne : (Value.type "int" == Value.ref C) = false := Bool.eq_false_iff.mpr fun q => by cases beq_iff_eq.mp q
  simp only [binaryOp, hi]
  refine wpAny_holding (wpAny_bind ?_)
  unfold binaryOp1
  refine wpAny_bind (L1.at (wpAny_bind (L2.at (wpAny_bind (L3.at ?_)))))
  simp only [hne, Bool.false_eq_true, if_false]
  ksp_lk
  refine two _ ?_
  ksp_lk
  refine wpAny_mono one (fun r s' hr' => ?_) fun _ _ e => e
  obtain ⟨v, rfl, hq⟩ := hr'
  ksp_lk
  exact hq
end
end Ol

namespace Ol
open PySem PySem.W PySem.Calls PyProof.Rows L2
section
variable {X : Cx} {CX : CXT} {k : Nat} {C f : Addr} {fd : FuncData} {ps : List Str} {sp : Sp} {E : XK} {pins : List (Addr × Obj)} {σ : L2.St} {H : Hp} {s : Shared}

/-- what the type of a value is looked up as -/
theorem looks_ty {x : V} {u t : Value} (I : Inv X pins σ H s) (rx : RelV x u) (ty : TyX X.K H x t) : Looks (model X.prog X.w) s.heap (typeOf u) t := by
  cases ty with
  | base b =>
    cases b with
    | non => cases (show u = Value.none from rx); exact Looks.of_pure rfl
    | bl y => cases (show u = Value.bool y from rx); exact Looks.of_pure rfl
    | int i => obtain ⟨t, q⟩ := (show ∃ t, u = Value.int i t from rx); cases q; exact Looks.of_pure rfl
    | str y => obtain ⟨t, q⟩ := (show ∃ t, u = Value.str y t from rx); cases q; exact Looks.of_pure rfl
    | flt y => obtain ⟨t, q⟩ := (show ∃ t, u = Value.float y t from rx); cases q; exact Looks.of_pure rfl
    | @lst a xs ea =>
      cases (show u = Value.ref a from rx)
      obtain ⟨_, _, n, _, h1⟩ := (show ObjOk X.prog X.w H s.heap a (.lst xs) from I.hok a _ ea)
      exact (Looks.ld h1).andThen .now
    | @frz a ob xs ea =>
      cases (show u = Value.ref a from rx)
      obtain ⟨_, _, _, n, _, h1⟩ := (show ObjOk X.prog X.w H s.heap a (.frz ob (.lst xs)) from I.hok a _ ea)
      exact (Looks.ld h1).andThen .now
    | @tup a xs ea =>
      cases (show u = Value.ref a from rx)
      obtain ⟨_, _, _, o, h1, h2, _⟩ := (show ObjOk X.prog X.w H s.heap a (.tup xs) from I.hok a _ ea)
      exact h2 ▸ (Looks.ld h1).andThen .now
    | @dK a kvs ea =>
      cases (show u = Value.ref a from rx)
      obtain ⟨_, _, vs, _, o, es, ep, h1, h2, _⟩ := (show ObjOk X.prog X.w H s.heap a (.dK kvs) from I.hok a _ ea)
      exact h2.1 ▸ (Looks.ld h1).andThen .now
    | @dT a kvs ea =>
      cases (show u = Value.ref a from rx)
      obtain ⟨_, _, xs, _, o, es, ep, h1, h2, _⟩ := (show ObjOk X.prog X.w H s.heap a (.dT kvs) from I.hok a _ ea)
      exact h2.1 ▸ (Looks.ld h1).andThen .now
    | @ins a C dx fs ea cl ha hn htk hm =>
      cases (show u = Value.ref a from rx)
      obtain ⟨mA, O, _⟩ := ins_get I.hok ea
      obtain ⟨od, J, _⟩ := O.look
      exact J.type
  | byt y => obtain ⟨t, q⟩ := (show ∃ t, u = Value.bytes y t from rx); cases q; exact Looks.of_pure rfl
  | @set a S n ea =>
    cases (show u = Value.ref a from rx)
    obtain ⟨o, _, _, _, e, ex, _⟩ := (show ObjOk X.prog X.w H s.heap a (.set S n) from I.hok a _ ea)
    exact ex.1 ▸ (Looks.ld e).andThen .now
  | @kList a o e c =>
    cases (show u = Value.ref a from rx)
    exact c ▸ (Looks.ld (I.kIn a o e)).andThen .now
  | @kTuple a o e c =>
    cases (show u = Value.ref a from rx)
    exact c ▸ (Looks.ld (I.kIn a o e)).andThen .now
  | @kDict a o e c =>
    cases (show u = Value.ref a from rx)
    exact c ▸ (Looks.ld (I.kIn a o e)).andThen .now
  | @fTuple a ob xs ea =>
    cases (show u = Value.ref a from rx)
    obtain ⟨_, _, _, _, o, h1, h2, _⟩ := (show ObjOk X.prog X.w H s.heap a (.frz ob (.tup xs)) from I.hok a _ ea)
    exact h2 ▸ (Looks.ld h1).andThen .now
  | @fDict a ob kvs ea =>
    cases (show u = Value.ref a from rx)
    obtain ⟨_, _, _, vs, _, o, es, ep, h1, h2, _⟩ := (show ObjOk X.prog X.w H s.heap a (.frz ob (.dK kvs)) from I.hok a _ ea)
    exact h2.1 ▸ (Looks.ld h1).andThen .now

theorem back_ep {Q : VK} {u : Value} {s' : Shared} (h : EP X pins σ Q u s') : W.CmpBack (EP X pins σ Q) u s' := by
  obtain ⟨v, H', I', r, q⟩ := id h
  cases v with
  | non => cases (show u = Value.none from r); exact h
  | bl b => cases (show u = Value.bool b from r); exact h
  | int i => obtain ⟨t, e⟩ := (show ∃ t, u = Value.int i t from r); cases e; exact h
  | str i => obtain ⟨t, e⟩ := (show ∃ t, u = Value.str i t from r); cases e; exact h
  | byt i => obtain ⟨t, e⟩ := (show ∃ t, u = Value.bytes i t from r); cases e; exact h
  | flt i => obtain ⟨t, e⟩ := (show ∃ t, u = Value.float i t from r); cases e; exact h
  | ref a => cases (show u = Value.ref a from r); exact h
  | ty n => cases (show u = Value.type n from r); exact h

/-! ### own operators -/
/-- a op b, a an int, b an instance with the reflected method f -/
def rRefl (C : Addr) (sp : Sp) (E : XK) : R2 := fun x y H Q => ∃ i a dx fs, x = .int i ∧ y = .ref a ∧ H a = some (.ins C dx fs) ∧ sp [.ref a, .int i] H Q E
structure ReflOf (K : Frag) (C : Addr) (op : Operator) (f : Addr) : Prop where
  first : selfFirst K C = true
  own : ∃ fo : Option Value, findIn K (.ref C) (PySem.dunder op.info.2) = some fo ∧ (fo = none ∨ ∃ g : Addr, fo = some (.ref g))
  at_ : findIn K (.ref C) (dunderR op.info.2) = some (some (.ref f))
  fn : isFn K (.ref f) = true
  sub : subIn K (.ref C) (.type "int") = some false
theorem op_refl {op : Operator} {id : String} (R : ReflOf X.K C op f) (fl : fillsNumberSlot (.type "int") op.info.2 = pure true) (sl : Slot "int" (PySem.dunder op.info.2) id) (lt : Lets id)
    (F : FnOk X.prog X.w X.K X.mg X.base CX k f fd ps sp) (hr : Room k X.A) (hb : Binds X.K fd ps []) (hx : Passes CX X E) : OpR X (binaryOp op) (rRefl C sp E) := by
  intro pins s σ H x y v u Q I rx ry h
  obtain ⟨i, a, dx, fs, rfl, rfl, ea, q⟩ := h
  obtain ⟨t, rfl⟩ := rx
  cases (show u = Value.ref a from ry)
  obtain ⟨mA, O, _⟩ := ins_get I.hok ea
  obtain ⟨od, J, _⟩ := O.look
  obtain ⟨fo, h1, h2⟩ := R.own
  refine refl_int I.kIn J O.obj R.first fl sl lt h1 h2 R.at_ R.fn R.sub ?_
  exact wpAny_mono (run_fn (us := [.ref a, .int i t]) (vs := [.ref a, .int i]) F hr hb .nil hx I (.cons rfl (.cons ⟨t, rfl⟩ .nil)) q) (fun _ _ z => back_ep z) fun _ _ z => z
/-- a op b, a an instance with the method f, b of a built-in type T -/
def rOwnL (K : Frag) (C : Addr) (T : String) (sp : Sp) (E : XK) : R2 := fun x y H Q => ∃ a dx fs, x = .ref a ∧ H a = some (.ins C dx fs) ∧ TyX K H y (.type T) ∧ sp [.ref a, y] H Q E
structure OwnOf (K : Frag) (C : Addr) (op : Operator) (T : String) (f : Addr) : Prop where
  first : selfFirst K C = true
  at_ : findIn K (.ref C) (PySem.dunder op.info.2) = some (some (.ref f))
  fn : isFn K (.ref f) = true
  refl : ∃ rc : Option Value, findIn K (.ref C) (dunderR op.info.2) = some rc ∧ (rc = none ∨ ∃ g : Addr, rc = some (.ref g))
  t1 : ∃ fo, findIn K (.type T) (PySem.dunder op.info.2) = some fo
  t2 : ∃ ro, findIn K (.type T) (dunderR op.info.2) = some ro
  sub : subIn K (.type T) (.ref C) = some false

theorem own_left {op : Operator} {b : Value} {T : String} {x : Addr} {ox : Obj} {od : Option Obj} {K : Frag} {prog : Program} {w : World} {A : Around} {Er : Value → Shared → Prop} {fo ro rc : Option Value} {Q : Value → Shared → Prop} (X : K.In s.heap) (I : InstAt s.heap x ox C od)
    (hb : Looks (model prog w) s.heap (typeOf b) (.type T)) (hc : selfFirst K C = true)
    (hs : findIn K (.ref C) (PySem.dunder op.info.2) = some (some (.ref f))) (hf : isFn K (.ref f) = true) (hr : findIn K (.ref C) (dunderR op.info.2) = some rc) (hp : rc = none ∨ ∃ g : Addr, rc = some (.ref g))
    (h1 : findIn K (.type T) (PySem.dunder op.info.2) = some fo) (h2 : findIn K (.type T) (dunderR op.info.2) = some ro) (hsub : subIn K (.type T) (.ref C) = some false)
    (h : wpAny (model prog w) A (call (.ref f) [.ref x, b]) (W.CmpBack Q) Er s) : wpAny (model prog w) A (binaryOp op (.ref x) b) Q Er s := by
  obtain ⟨cd, rest, hcd, hm⟩ := ksp_first hc
  rcases hi : op.info with ⟨sym, nm'⟩
  rw [hi] at hs hr h1 h2
  dsimp only at hs hr h1 h2
  have one := ksp_try X I hs hf h
  obtain ⟨hh, g, d, tt, os⟩ := s
  have L1 : Looks (model prog w) hh (typeOf (.ref x)) (.ref C) := I.type
  have L2 : Looks (model prog w) hh (typeOf b) (.type T) := hb
  have L3 : Looks (model prog w) hh (fillsNumberSlot (.ref C) nm') true := fills_K X hcd hm hs
  have L4 : Looks (model prog w) hh (fillsNumberSlot (.type T) nm') ((fo.isSome && !isSeqSlot fo) || (ro.isSome && !isSeqSlot ro)) := ksp_fillsT X h1 h2
  have L5 : Looks (model prog w) hh (isSubtype (.type T) (.ref C)) false := looks_subIn X hsub
  have L6 : Looks (model prog w) hh (numberSlotInPython (.ref C) nm') true := ksp_inPy X hs hr hp
  have L7 : Looks (model prog w) hh (numberSlotInPython (.type T) nm') false := Looks.of_pure rfl
  have L8 : Looks (model prog w) hh (typeLookup (.type T) (dunderR nm')) ro := looks_findIn X h2
  generalize ((fo.isSome && !isSeqSlot fo) || (ro.isSome && !isSeqSlot ro)) = right at L4
  have hne : (Value.ref C == Value.type T) = false := Bool.eq_false_iff.mpr fun q => by cases beq_iff_eq.mp q
  simp only [binaryOp, hi]
  refine wpAny_holding (wpAny_bind ?_)
  unfold binaryOp1
  refine wpAny_bind (L1.at (wpAny_bind (L2.at (wpAny_bind (L3.at ?_)))))
  simp only [hne, Bool.false_eq_true, if_false]
  cases right with
  | false =>
    ksp_lk
    refine wpAny_mono one (fun r s' hr' => ?_) fun _ _ e => e
    obtain ⟨v, rfl, hq⟩ := hr'
    ksp_lk
    exact hq
  | true =>
    ksp_lk
    refine wpAny_mono one (fun r s' hr' => ?_) fun _ _ e => e
    obtain ⟨v, rfl, hq⟩ := hr'
    ksp_lk
    exact hq
theorem op_ownL {op : Operator} {T : String} (R : OwnOf X.K C op T f) (F : FnOk X.prog X.w X.K X.mg X.base CX k f fd ps sp) (hr : Room k X.A) (hb : Binds X.K fd ps []) (hx : Passes CX X E) : OpR X (binaryOp op) (rOwnL X.K C T sp E) := by
  intro pins s σ H x y v u Q I rx ry h
  obtain ⟨a, dx, fs, rfl, ea, ty, q⟩ := h
  cases (show v = Value.ref a from rx)
  obtain ⟨mA, O, _⟩ := ins_get I.hok ea
  obtain ⟨od, J, _⟩ := O.look
  obtain ⟨rc, h1, h2⟩ := R.refl
  obtain ⟨fo, h3⟩ := R.t1
  obtain ⟨ro, h4⟩ := R.t2
  refine own_left I.kIn J (looks_ty I ry ty) R.first R.at_ R.fn h1 h2 h3 h4 R.sub ?_
  exact wpAny_mono (run_fn (us := [.ref a, u]) (vs := [.ref a, y]) F hr hb .nil hx I (.cons rfl (.cons ry .nil)) q) (fun _ _ z => back_ep z) fun _ _ z => z

/-- a == b and its like, a an instance with the method f -/
def rCmpO (K : Frag) (C : Addr) (sp : Sp) (E : XK) : R2 := fun x y H Q => ∃ a dx fs t, x = .ref a ∧ H a = some (.ins C dx fs) ∧ TyX K H y t ∧ notFirst K C t = true ∧ sp [.ref a, y] H Q E
structure CmpOf (K : Frag) (C : Addr) (op : CmpOp) (f : Addr) : Prop where
  at_ : findIn K (.ref C) (cmpInfo op).2.1 = some (some (.ref f))
  fn : isFn K (.ref f) = true
theorem op_cmpO {op : CmpOp} (hop : ∀ a b, compareOp op a b = richCompare op a b) (R : CmpOf X.K C op f) (F : FnOk X.prog X.w X.K X.mg X.base CX k f fd ps sp) (hr : Room k X.A) (hb : Binds X.K fd ps []) (hx : Passes CX X E) : OpR X (compareOp op) (rCmpO X.K C sp E) := by
  intro pins s σ H x y v u Q I rx ry h
  obtain ⟨a, dx, fs, t, rfl, ea, ty, nf, q⟩ := h
  cases (show v = Value.ref a from rx)
  obtain ⟨mA, O, _⟩ := ins_get I.hok ea
  obtain ⟨od, J, _⟩ := O.look
  obtain ⟨m, Fm⟩ := I.fr
  rw [hop]
  refine cmp_K hr.units0 Fm I.mod.kin J (looks_ty I ry ty) nf R.at_ R.fn ?_
  exact wpAny_mono (run_fn (us := [.ref a, u]) (vs := [.ref a, y]) F hr hb .nil hx I (.cons rfl (.cons ry .nil)) q) (fun _ _ z => back_ep z) fun _ _ z => z

/-- b in a, a an instance with the method f -/
def rInO (C : Addr) (sp : Sp) (E : XK) (g : Bool → Bool) : R2 := fun x y H Q => ∃ a dx fs, y = .ref a ∧ H a = some (.ins C dx fs) ∧ sp [.ref a, x] H (fun v H' => ∃ b, v = .bl b ∧ Q (.bl (g b)) H') E
theorem op_inO (R : Meth X.K C "__contains__" f) (F : FnOk X.prog X.w X.K X.mg X.base CX k f fd ps sp) (hr : Room k X.A) (hb : Binds X.K fd ps []) (hx : Passes CX X E) : OpR X (compareOp .In) (rInO C sp E id) := by
  intro pins s σ H x y v u Q I rx ry h
  obtain ⟨a, dx, fs, rfl, ea, q⟩ := h
  cases (show u = Value.ref a from ry)
  obtain ⟨mA, O, _⟩ := ins_get I.hok ea
  obtain ⟨od, J, _⟩ := O.look
  obtain ⟨m, Fm⟩ := I.fr
  refine in_K Fm I.mod.kin J R.at_ R.fn ?_
  refine wpAny_mono (run_fn (us := [.ref a, v]) (vs := [.ref a, x]) F hr hb .nil hx I (.cons rfl (.cons rx .nil)) q) (fun z s' hz => ?_) fun _ _ z => z
  obtain ⟨v', H', I', r', b, rfl, q'⟩ := hz
  cases (show z = Value.bool b from r')
  exact wpAny_truthy_bool ⟨.bl b, H', I', rfl, q'⟩
theorem op_notInO (R : Meth X.K C "__contains__" f) (F : FnOk X.prog X.w X.K X.mg X.base CX k f fd ps sp) (hr : Room k X.A) (hb : Binds X.K fd ps []) (hx : Passes CX X E) : OpR X (compareOp .NotIn) (rInO C sp E not) := by
  intro pins s σ H x y v u Q I rx ry h
  obtain ⟨a, dx, fs, rfl, ea, q⟩ := h
  cases (show u = Value.ref a from ry)
  obtain ⟨mA, O, _⟩ := ins_get I.hok ea
  obtain ⟨od, J, _⟩ := O.look
  obtain ⟨m, Fm⟩ := I.fr
  refine notIn_K Fm I.mod.kin J R.at_ R.fn ?_
  refine wpAny_mono (run_fn (us := [.ref a, v]) (vs := [.ref a, x]) F hr hb .nil hx I (.cons rfl (.cons rx .nil)) q) (fun z s' hz => ?_) fun _ _ z => z
  obtain ⟨v', H', I', r', b, rfl, q'⟩ := hz
  cases (show z = Value.bool b from r')
  exact wpAny_truthy_bool ⟨.bl (!b), H', I', rfl, q'⟩

/-- a != b by the __eq__ of the class of a and object's __ne__ -/
structure NeOf (K : Frag) (C : Addr) (f : Addr) : Prop where
  eq : findIn K (.ref C) "__eq__" = some (some (.ref f))
  fn : isFn K (.ref f) = true
  ne : findIn K (.ref C) "__ne__" = some (some (.builtin "object.__ne__"))
  obj : mroIn K C (.type "object") = some true
theorem ne_obj {b tb : Value} {x : Addr} {ox : Obj} {od : Option Obj} {K : Frag} {prog : Program} {w : World} {A : Around} {Er : Value → Shared → Prop} {Q : Value → Shared → Prop} (hu : A.units + 1 < cLine) (X : K.In s.heap) (I : InstAt s.heap x ox C od)
    (hb : Looks (model prog w) s.heap (typeOf b) tb) (hn : notFirst K C tb = true) (R : NeOf K C f)
    (h : wpAny (model prog w) A.in1 (call (.ref f) [.ref x, b]) (fun v s' => ∃ k, v = .bool k ∧ Q (.bool (!k)) s') Er s) : wpAny (model prog w) A (compareOp .NotEq (.ref x) b) Q Er s := by
  have sub : Looks (model prog w) s.heap (isInstance (.ref x) (.type "object")) true := I.type.andThen (looks_mroIn X R.obj)
  have one : wpAny (model prog w) A (tryCompare (.ref x) "__ne__" b) (fun r s' => ∃ v, r = some v ∧ Q v s') Er s := by
    unfold tryCompare
    refine wpAny_bind ?_
    simp only [callSpecialIfBound?, bindSpecialIfBound?]
    refine wpAny_holding (wpAny_bind (wpAny_bind (wpAny_bind (I.type.here ((looks_findIn X R.ne).here ?_)))))
    have S := F.cmp_object.ne
    simp only [S.bind]
    refine wpAny_bind (wpAny_askSetting (wpAny_ite ?_))
    have fin : wpAny (model prog w) A (call (.builtin "object.__ne__") ([.ref x] ++ [b]) >>= fun v => pure (some v)) (fun a s' => wpAny (model prog w) A (match a with | some .notImplemented | none => pure none | some v => pure (some v)) (fun r s' => ∃ v, r = some v ∧ Q v s') Er s') Er s := by
      refine wpAny_bind (wpAny_call (codeAny_call_builtin S.plain F.cmpEntry_ne (check_slot F.cmpKind_ne F.cmpSplit_ne sub (F.cmpArgs_ne _ _) ?_)))
      unfold Builtin.«object.__ne__»
      obtain ⟨hp, g, d, t, os⟩ := s
      repeat (first
        | with_reducible refine wpAny_cRoomFor hu ?_
        | (refine wpAny_bind (m := callSpecialIfBound? (.ref x) (Str.ofString "__eq__") [b])
            (ifBound_K X I R.eq R.fn (wpAny_mono h (fun r s' hr => by
              obtain ⟨k, rfl, hq⟩ := hr
              repeat (first | exact ⟨_, rfl, hq⟩ | exact wpAny_pure (wpAny_pure ⟨_, rfl, hq⟩) | exact wpAny_pure ⟨_, rfl, hq⟩ | exact wpAny_truthy_bool hq | (refine wpAny_bind (m := truthy (.bool _)) (wpAny_truthy_bool ?_)) | wp_step)) fun _ _ e => e)))
        | wp_step)
    split
    · exact wpAny_bind (wpAny_pure (wpAny_pure (by exact fin)))
    · exact wpAny_tryCatch (wpAny_bind (wpAny_pure (wpAny_pure (by exact fin))))
  show wpAny _ _ (richCompare .NotEq (.ref x) b) _ _ _
  unfold richCompare
  simp only [oneThing_ref]
  refine wpAny_holding (wpAny_bind (wpAny_cRoomFor (Nat.lt_of_succ_lt hu) ?_))
  rw [show cmpInfo .NotEq = (("!=", "__ne__", "__ne__") : String × Str × Str) from rfl]
  dsimp only
  refine wpAny_bind (I.type.here (wpAny_bind (hb.here ?_)))
  split
  · rename_i q
    have e : subIn K tb (.ref C) = some false := by
      rcases Bool.or_eq_true_iff.mp hn with e | e
      · rw [beq_iff_eq.mp e] at q; simp at q
      · exact beq_iff_eq.mp e
    refine wpAny_bind ((looks_subIn X e).here ?_)
    simp only [Bool.false_eq_true, if_false]
    refine wpAny_bind (wpAny_mono one (fun r s' z => ?_) fun _ _ e => e)
    obtain ⟨v, rfl, hq⟩ := z
    exact wpAny_pure hq
  · refine wpAny_bind (wpAny_pure ?_)
    simp only [Bool.false_eq_true, if_false]
    refine wpAny_bind (wpAny_mono one (fun r s' z => ?_) fun _ _ e => e)
    obtain ⟨v, rfl, hq⟩ := z
    exact wpAny_pure hq

def rNeO (K : Frag) (C : Addr) (sp : Sp) (E : XK) : R2 := fun x y H Q => ∃ a dx fs t, x = .ref a ∧ H a = some (.ins C dx fs) ∧ TyX K H y t ∧ notFirst K C t = true ∧ sp [.ref a, y] H (fun v H' => ∃ b, v = .bl b ∧ Q (.bl (!b)) H') E
theorem run_in1 {Q : VK} {us : List Value} {vs : List V} (F : FnOk X.prog X.w X.K X.mg X.base CX k f fd ps sp) (hr : Room (k + 1) X.A) (hb : Binds X.K fd ps []) (hx : Passes CX X E)
    (I : Inv X pins σ H s) (r : Vals vs us) (h : sp vs H Q E) : wpAny (model X.prog X.w) X.A.in1 (call (.ref f) us) (EP X pins σ Q) X.xe s := by
  have hl : us.length = ps.length := by rw [← r.length]; exact F.len _ _ _ _ h
  have hb' := hb s us I.kIn (by rw [List.append_nil]; exact hl)
  rw [List.append_nil] at hb'
  refine wpAny_call (codeAny_mono (F.run X.A.in1 X.stack s H ⟨us, []⟩ us vs Q E hr.in1 I.env0.in1 hb' r h) fun r s' hq => ?_)
  cases r with
  | error e => exact hx pins σ H s e s' I hq
  | ok fl =>
    cases fl with
    | ret u => exact I.after hq
    | next => exact False.elim hq
    | brk => exact False.elim hq
    | cont => exact False.elim hq
theorem op_neO (R : NeOf X.K C f) (F : FnOk X.prog X.w X.K X.mg X.base CX k f fd ps sp) (hr : Room (k + 1) X.A) (hb : Binds X.K fd ps []) (hx : Passes CX X E) : OpR X (compareOp .NotEq) (rNeO X.K C sp E) := by
  intro pins s σ H x y v u Q I rx ry h
  obtain ⟨a, dx, fs, t, rfl, ea, ty, nf, q⟩ := h
  cases (show v = Value.ref a from rx)
  obtain ⟨mA, O, _⟩ := ins_get I.hok ea
  obtain ⟨od, J, _⟩ := O.look
  refine ne_obj (hu_of hr) I.kIn J (looks_ty I ry ty) nf R ?_
  refine wpAny_mono (run_in1 (us := [.ref a, u]) (vs := [.ref a, y]) F hr hb hx I (.cons rfl (.cons ry .nil)) q) (fun z s' hz => ?_) fun _ _ z => z
  obtain ⟨v', H', I', r', b, rfl, q'⟩ := hz
  cases (show z = Value.bool b from r')
  exact ⟨b, rfl, .bl (!b), H', I', rfl, q'⟩
theorem rich_eq (a b : Value) : compareOp .Eq a b = richCompare .Eq a b := rfl
theorem rich_lt (a b : Value) : compareOp .Lt a b = richCompare .Lt a b := rfl
theorem rich_le (a b : Value) : compareOp .LtE a b = richCompare .LtE a b := rfl
theorem rich_gt (a b : Value) : compareOp .Gt a b = richCompare .Gt a b := rfl
theorem rich_ge (a b : Value) : compareOp .GtE a b = richCompare .GtE a b := rfl
end
end Ol

namespace Ol
open PySem L2
theorem pe_gi {X : Cx} {x : Str} {i : Int} {pos : Pos} (hg : Gl X x) (h : ∃ t, X.mg x = some (Value.int i t)) (hd : (x == ("__debug__" : Str)) = false := by decide) : PE X (.Name x pos) (tC (.int i)) := by
  obtain ⟨t, h⟩ := h
  exact pe_glob hg h ⟨t, rfl⟩ hd
/-! ### heaps that a pen is drawn from -/
/-- all that stands beside p stays -/
def Go (p : Addr) (H H' : Hp) : Prop := ∀ b o, b ≠ p → H b = some o → H' b = some o
theorem Go.refl (p : Addr) (H : Hp) : Go p H H := fun _ _ _ h => h
theorem Go.trans {p : Addr} {H H1 H2 : Hp} (a : Go p H H1) (b : Go p H1 H2) : Go p H H2 := fun c o n h => b c o n (a c o n h)
theorem Same.go {p : Addr} {H H' : Hp} (s : Same H H') : Go p H H' := fun b o _ h => s b o h
theorem Same.new {H : Hp} {q : Addr} {o : HO} (h : H q = none) : Same H (upd H q o) := fun b u e => by rw [upd_ne (ne_of_none e h)]; exact e
theorem Go.new {p : Addr} {H : Hp} {q : Addr} {o : HO} (h : H q = none) : Go p H (upd H q o) := Same.go (Same.new h)
/-- an object beside p -/
structure At (p : Addr) (H : Hp) (b : Addr) (o : HO) : Prop where
  ne : b ≠ p
  at_ : H b = some o
theorem At.go {p b : Addr} {H H' : Hp} {o : HO} (a : At p H b o) (g : Go p H H') : At p H' b o := ⟨a.ne, g _ _ a.ne a.at_⟩
/-- the pen: its cells, how many are used, what is left of a great one; n more draws are let -/
def Pen (p : Addr) (H : Hp) (n : Nat) : Prop := ∃ (l : Addr) (cells : List Int) (spot great : Int), H p = some (.lst [.ref l, .int spot, .int great]) ∧ l ≠ p ∧ H l = some (.lst (cells.map V.int)) ∧ 0 ≤ spot ∧ spot + n ≤ 4000000 ∧ 0 ≤ great ∧ cells.length ≤ 63
theorem Pen.le {p : Addr} {H : Hp} {m n : Nat} (h : Pen p H n) (le : m ≤ n) : Pen p H m := by
  obtain ⟨l, c, s, g, h1, h2, h3, h4, h5, h6, h7⟩ := h
  exact ⟨l, c, s, g, h1, h2, h3, h4, by omega, h6, h7⟩
theorem Pen.same {p : Addr} {H H' : Hp} {n : Nat} (h : Pen p H n) (s : Same H H') : Pen p H' n := by
  obtain ⟨l, c, sp, g, h1, h2, h3, h4⟩ := h
  exact ⟨l, c, sp, g, s _ _ h1, h2, s _ _ h3, h4⟩
theorem Pen.new {p q : Addr} {H : Hp} {n : Nat} {o : HO} (h : Pen p H n) (hq : H q = none) : Pen p (upd H q o) n := h.same (Same.new hq)
theorem Pen.ne {p q : Addr} {H : Hp} {n : Nat} (h : Pen p H n) (hq : H q = none) : q ≠ p := by
  obtain ⟨l, c, sp, g, h1, _⟩ := h
  exact (ne_of_none h1 hq).symm
/-- a new object beside the pen -/
theorem Pen.at {p q : Addr} {H : Hp} {n : Nat} {o : HO} (h : Pen p H n) (hq : H q = none) : At p (upd H q o) q o := ⟨h.ne hq, upd_same⟩
theorem Pen.ins {p b C dx : Addr} {fs : List (Str × V)} {H : Hp} {n : Nat} (h : Pen p H n) (hb : H b = some (.ins C dx fs)) : At p H b (.ins C dx fs) := by
  obtain ⟨l, c, sp, g, h1, _⟩ := h
  exact ⟨ne_of hb h1 (by intro z; cases z), hb⟩
theorem Pen.tup {p b : Addr} {xs : List V} {H : Hp} {n : Nat} (h : Pen p H n) (hb : H b = some (.tup xs)) : At p H b (.tup xs) := by
  obtain ⟨l, c, sp, g, h1, _⟩ := h
  exact ⟨ne_of hb h1 (by intro z; cases z), hb⟩
/-! ### the promises of the law's own pen -/
def spPen (K : PySem.W.Frag) : Sp := fun vs H Q _ => ∃ (a : Addr) (ns : List Int), vs = [.ref a] ∧ SqL K H a (ns.map V.int) ∧ ns.length ≤ 63 ∧ ∀ (p : Addr) (H' : Hp), Same H H' → H p = none → Pen p H' 4000000 → Q (.ref p) H'
def spDraw : Sp := fun vs H Q _ => ∃ (p : Addr) (many : Int) (n : Nat), vs = [.ref p, .int many] ∧ 0 < many ∧ many.natAbs < 2 ^ 250 ∧ Pen p H (n + 1) ∧ ∀ (d : Int) (H' : Hp), Go p H H' → Pen p H' n → 0 ≤ d → d < many → Q (.int d) H'
def spPick (K : PySem.W.Frag) : Sp := fun vs H Q _ => ∃ (p q : Addr) (xs : List V) (n : Nat), vs = [.ref p, .ref q] ∧ At p H q (.lst xs) ∧ 0 < xs.length ∧ xs.length ≤ 1000 ∧ Pen p H (n + 1) ∧ ∀ (v : V) (H' : Hp), Go p H H' → Pen p H' n → v ∈ xs → Q v H'
/-! ### kinds -/
structure IsC (K : PySem.W.Frag) (C : Addr) : Prop where
  cl : Cls K C
  ha : PySem.W.findIn K (.ref C) "__class__" = some (some (.builtin "object.__class__"))
  hn : PySem.W.specialIn K (.builtin "object.__class__") "__get__" = some (some (.builtin "getset_descriptor.__get__"))
  htk : PySem.W.takesIn K (.builtin "object.__class__") = some true
  hm : PySem.W.mroIn K C (.type "object") = some true
theorem IsC.ty {K : PySem.W.Frag} {C a dx : Addr} {fs : List (Str × V)} {H : Hp} (i : IsC K C) (h : H a = some (.ins C dx fs)) : TyX K H (.ref a) (.ref C) := .base (.ins h i.cl i.ha i.hn i.htk i.hm)
theorem kit_int_int {K : PySem.W.Frag} : PySem.W.kitOne K (.type "int") (.type "int") = some true := kit_ty (by decide +kernel)
theorem kit_int_bool {K : PySem.W.Frag} : PySem.W.kitOne K (.type "int") (.type "bool") = some false := kit_ty (by decide +kernel)
theorem kit_bool_int {K : PySem.W.Frag} : PySem.W.kitOne K (.type "bool") (.type "int") = some true := kit_ty (by decide +kernel)
theorem kit_bool_bool {K : PySem.W.Frag} : PySem.W.kitOne K (.type "bool") (.type "bool") = some true := kit_ty (by decide +kernel)
theorem kit_self {K : PySem.W.Frag} {t : Value} : PySem.W.kitOne K t t = some true := by unfold PySem.W.kitOne; rw [if_pos (by simp)]
/-- a value that is no int (a bool may be) -/
def NoInt (K : PySem.W.Frag) (H : Hp) (x : V) : Prop := ∃ (t : Value) (b : Bool), TyX K H x t ∧ PySem.W.kitOne K t (.type "int") = some b ∧ (b = true → PySem.W.kitOne K t (.type "bool") = some true)
def spIsInt (K : PySem.W.Frag) : Sp := fun vs H Q _ => ∃ x, vs = [x] ∧ ((∃ i, x = .int i ∧ Q (.bl true) H) ∨ (NoInt K H x ∧ Q (.bl false) H))
def spBetween (K : PySem.W.Frag) : Sp := fun vs H Q _ => ∃ x lo hi, vs = [x, .int lo, .int hi] ∧ ((∃ i, x = .int i ∧ Q (.bl (decide (lo ≤ i ∧ i ≤ hi))) H) ∨ (NoInt K H x ∧ Q (.bl false) H))
def spMoment (K : PySem.W.Frag) : Sp := fun vs H Q _ => ∃ x, vs = [x] ∧ ((∃ i, x = .int i ∧ Q (.bl (decide (i.natAbs < 10 ^ 60))) H) ∨ (NoInt K H x ∧ Q (.bl false) H))
end Ol

namespace Ol
open PySem L2
/-! ### one reading, one step -/
section
variable {K : PySem.W.Frag} {σ : L2.St} {H : Hp} {Q : VK} {ta tb tc te : TE} {t u : TT} {ts us : TS} {tr : TA} {D : Ends} {v x y : V} {i j : Int} {C : Addr}
theorem t_ret (h : te σ H D.rt) : tRet te D σ H := h
theorem t_retN (h : D.rt .non H) : tRetN D σ H := h
theorem t_next (h : D.nx σ H) : tNext D σ H := h
theorem t_break (h : D.bk σ H) : tBreak D σ H := h
theorem t_cont (h : D.ct σ H) : tCont D σ H := h
theorem t_seq (h : ts { D with nx := us D } σ H) : tSeq ts us D σ H := h
theorem t_drop (h : te σ H fun _ H1 => D.nx σ H1) : tDrop te D σ H := h
theorem t_asg {g : TG} (h : te σ H fun x H1 => g x σ H1 D.nx) : tAsg te g D σ H := h
theorem t_name {k : Nat} {R : L2.St → Hp → Prop} (h : R (σ.set k (some v)) H) : gName k v σ H R := h
theorem t_ifS (h : t σ H fun b H1 => if b = true then ts D σ H1 else us D σ H1) : tIfS t ts us D σ H := h
theorem t_par {k l : Nat} (h : tr σ H fun vs H1 => ∃ v w, vs = [v, w] ∧ D.nx ((σ.set k (some v)).set l (some w)) H1) : tPar k l tr D σ H := h
theorem ex_par {P : V → V → Prop} (h : P x y) : ∃ v w, [x, y] = [v, w] ∧ P v w := ⟨x, y, rfl, h⟩
theorem t_var {k : Nat} (e : σ[k]? = some (some v)) (h : Q v H) : tVar k σ H Q := ⟨v, e, h⟩
theorem t_c (h : Q v H) : tC v σ H Q := h
theorem t_op {r : R2} (h : ta σ H fun x H1 => tb σ H1 fun y H2 => r x y H2 Q) : tOp r ta tb σ H Q := h
theorem t_un {r : V → Hp → VK → Prop} (h : ta σ H fun x H1 => r x H1 Q) : tUn r ta σ H Q := h
theorem t_andV (h : ta σ H fun x H1 => ∃ c, x = .bl c ∧ if c = true then tb σ H1 Q else Q (.bl false) H1) : tAndV ta tb σ H Q := h
theorem t_orV (h : ta σ H fun x H1 => ∃ c, x = .bl c ∧ if c = true then Q (.bl true) H1 else tb σ H1 Q) : tOrV ta tb σ H Q := h
theorem t_notV (h : ta σ H fun x H1 => ∃ c, x = .bl c ∧ Q (.bl (!c)) H1) : tNotV ta σ H Q := h
theorem t_if (h : t σ H fun c H1 => if c = true then ta σ H1 Q else tb σ H1 Q) : tIf t ta tb σ H Q := h
theorem t_B {R : Bool → Hp → Prop} (h : te σ H fun x H1 => ∃ c, x = .bl c ∧ R c H1) : tB te σ H R := h
theorem t_test {R : Bool → Hp → Prop} (h : te σ H fun x H1 => ∃ c, x = .bl c ∧ R c H1) : tTest te σ H R := h
theorem t_and {R : Bool → Hp → Prop} (h : t σ H fun c H1 => if c = true then u σ H1 R else R false H1) : tAnd t u σ H R := h
theorem t_or {R : Bool → Hp → Prop} (h : t σ H fun c H1 => if c = true then R true H1 else u σ H1 R) : tOr t u σ H R := h
theorem t_not {R : Bool → Hp → Prop} (h : t σ H fun c H1 => R (!c) H1) : tNot t σ H R := h
theorem t_chain {r r' : R2} (h : ta σ H fun x H1 => tb σ H1 fun y H2 => r x y H2 fun z H3 => ∃ k, z = .bl k ∧ (if k = true then tc σ H3 fun w' H4 => r' y w' H4 Q else Q (.bl false) H3)) : tChain r r' ta tb tc σ H Q := h
theorem t_cb {r : List V → Hp → VK → Prop} (h : tr σ H fun vs H1 => r vs H1 Q) : tCB r tr σ H Q := h
theorem t_nil {R : List V → Hp → Prop} (h : R [] H) : tNil σ H R := h
theorem t_cons {R : List V → Hp → Prop} (h : ta σ H fun x H1 => tr σ H1 fun xs H2 => R (x :: xs) H2) : tCons ta tr σ H R := h
theorem t_call {sp : Sp} {E : XK} (h : tr σ H fun vs H1 => sp vs H1 Q E) : tCall sp [] E tr σ H Q := by
  show tr σ H fun vs H1 => sp (vs ++ []) H1 Q E
  simpa only [List.append_nil] using h
theorem t_meth {m : Str} {sp : Sp} {E : XK} (h : ta σ H fun x H1 => ∃ a dx fs, x = .ref a ∧ H1 a = some (.ins C dx fs) ∧ fs.lookup m = none ∧ tr σ H1 fun vs H2 => sp (x :: vs) H2 Q E) : tMeth C m sp [] E ta tr σ H Q := by
  show ta σ H fun x H1 => ∃ a dx fs, x = .ref a ∧ H1 a = some (.ins C dx fs) ∧ fs.lookup m = none ∧ tr σ H1 fun vs H2 => sp (x :: (vs ++ [])) H2 Q E
  simpa only [List.append_nil] using h
theorem t_lst (h : tr σ H fun xs H1 => xs.length ≤ sizeLine ∧ ∀ p, H1 p = none → Q (.ref p) (upd H1 p (.lst xs))) : tLst tr σ H Q := h
theorem t_tup (h : tr σ H fun xs H1 => xs.length ≤ sizeLine ∧ ∀ p, H1 p = none → Q (.ref p) (upd H1 p (.tup xs))) : tTup tr σ H Q := h
theorem t_fld {f : Str} (h : ta σ H fun x H1 => ∃ a C dx fs v, x = .ref a ∧ H1 a = some (.ins C dx fs) ∧ Cls K C ∧ NoAttr K C f ∧ fs.lookup f = some v ∧ Q v H1) : tFld K ta f σ H Q := h
theorem t_sfld {f : Str} (h : tb σ H fun y H1 => ta σ H1 fun x H2 => ∃ a C dx fs, x = .ref a ∧ H2 a = some (.ins C dx fs) ∧ Cls K C ∧ NoAttr K C f ∧ fs.length < 1000 ∧ D.nx σ (upd H2 a (.ins C dx (putF f y fs)))) : sFld K ta tb f D σ H := h
theorem lst_ok {xs : List V} (h : Nat.ble xs.length 1000 = true) : xs.length ≤ sizeLine := Nat.le_trans (Nat.le_of_ble_eq_true h) (by decide)
theorem t_noPart {R : Option Int → Hp → Prop} (h : R none H) : tNoPart σ H R := h
theorem t_part {R : Option Int → Hp → Prop} (h : te σ H fun x H1 => ∃ i, x = .int i ∧ R (some i) H1) : tPart te σ H R := h
theorem t_sl {r : V → Option Int → Option Int → Hp → VK → Prop} {tl th : TO} (h : te σ H fun x H1 => tl σ H1 fun l H2 => th σ H2 fun u H3 => r x l u H3 Q) : tSl r te tl th σ H Q := h
theorem t_sub {to ti : TE} {ts : TSet} {R : L2.St → Hp → Prop} (h : to σ H fun o H1 => ti σ H1 fun i H2 => ts o i v H2 fun H3 => R σ H3) : gSub to ti ts v σ H R := h
theorem ex_bl {b : Bool} {P : Bool → Prop} (h : P b) : ∃ c, V.bl b = V.bl c ∧ P c := ⟨b, rfl, h⟩
theorem ex_int {P : Int → Prop} (h : P i) : ∃ c, V.int i = V.int c ∧ P c := ⟨i, rfl, h⟩
theorem r_I0 {g : Int → Int → V} (h : Q (g i j) H) : rI0 g (.int i) (.int j) H Q := ⟨i, j, rfl, rfl, h⟩
theorem r_I {c : Int → Int → Prop} {g : Int → Int → V} (hc : c i j) (h : Q (g i j) H) : rI c g (.int i) (.int j) H Q := ⟨i, j, rfl, rfl, hc, h⟩
theorem r_U {g : Int → V} (h : Q (g i) H) : rU g (.int i) H Q := ⟨i, rfl, h⟩
theorem dec_int {i j : Int} : decide (V.int i = V.int j) = decide (i = j) := by
  by_cases e : i = j
  · rw [e]; simp
  · rw [decide_eq_false e, decide_eq_false fun q => e (V.int.inj q)]
theorem dec_bl {i j : Bool} : decide (V.bl i = V.bl j) = decide (i = j) := by
  by_cases e : i = j
  · rw [e]; simp
  · rw [decide_eq_false e, decide_eq_false fun q => e (V.bl.inj q)]
theorem dec_str {i j : Str} : decide (V.str i = V.str j) = decide (i = j) := by
  by_cases e : i = j
  · rw [e]; simp
  · rw [decide_eq_false e, decide_eq_false fun q => e (V.str.inj q)]
theorem r_eqI (h : Q (.bl (decide (i = j))) H) : rEq (.int i) (.int j) H Q := ⟨rfl, by rw [dec_int]; exact h⟩
theorem r_neI (h : Q (.bl (!decide (i = j))) H) : rNe (.int i) (.int j) H Q := ⟨rfl, by rw [dec_int]; exact h⟩
theorem r_eqB {i j : Bool} (h : Q (.bl (decide (i = j))) H) : rEq (.bl i) (.bl j) H Q := ⟨rfl, by rw [dec_bl]; exact h⟩
theorem r_neB {i j : Bool} (h : Q (.bl (!decide (i = j))) H) : rNe (.bl i) (.bl j) H Q := ⟨rfl, by rw [dec_bl]; exact h⟩
theorem r_eqS {i j : Str} (h : Q (.bl (decide (i = j))) H) : rEq (.str i) (.str j) H Q := ⟨rfl, by rw [dec_str]; exact h⟩
theorem r_neS {i j : Str} (h : Q (.bl (!decide (i = j))) H) : rNe (.str i) (.str j) H Q := ⟨rfl, by rw [dec_str]; exact h⟩
theorem r_ixL {p : Addr} {xs : List V} (h : SqL K H p xs) (e : atI xs i = some v) (q : Q v H) : rIxL K (.ref p) (.int i) H Q := ⟨p, xs, i, v, rfl, rfl, h, e, q⟩
theorem r_ixT {p : Addr} {xs : List V} (h : SqT K H p xs) (e : atI xs i = some v) (q : Q v H) : rIxT K (.ref p) (.int i) H Q := ⟨p, xs, i, v, rfl, rfl, h, e, q⟩
theorem c_int1 {P : Int → Prop} {R : Prop} (h : P i) : (∃ k, [V.int i] = [V.int k] ∧ P k) ∨ R := .inl ⟨i, rfl, h⟩
theorem c_intB {b : Bool} {P : Bool → Prop} {R : Prop} (h : P b) : R ∨ ∃ k, [V.bl b] = [V.bl k] ∧ P k := .inr ⟨b, rfl, h⟩
theorem ite_n {b : Bool} {A B : Prop} (h : if b = true then B else A) : if (!b) = true then A else B := by cases b <;> exact h
theorem ite_y {c : Prop} [Decidable c] {A B : Prop} (hc : c) (h : A) : if decide c = true then A else B := by rw [decide_eq_true hc]; exact iteT h
theorem ite_f {c : Prop} [Decidable c] {A B : Prop} (hc : ¬ c) (h : B) : if decide c = true then A else B := by rw [decide_eq_false hc]; exact iteF h
theorem ite_d {c : Prop} [Decidable c] {A B : Prop} (h1 : c → A) (h2 : ¬ c → B) : if decide c = true then A else B := by
  by_cases hc : c
  · exact ite_y hc (h1 hc)
  · exact ite_f hc (h2 hc)
theorem t_make {sp : Sp} {E : XK} (h : tr σ H fun vs H1 => ∀ x dx, H1 x = none → H1 dx = none → dx ≠ x → sp (.ref x :: vs) (upd (upd H1 dx (.own x)) x (.ins C dx [])) (fun v H2 => v = .non ∧ Q (.ref x) H2) E) : tMake C sp [] E tr σ H Q := by
  show tr σ H fun vs H1 => ∀ x dx, H1 x = none → H1 dx = none → dx ≠ x → sp (.ref x :: (vs ++ [])) (upd (upd H1 dx (.own x)) x (.ins C dx [])) (fun v H2 => v = .non ∧ Q (.ref x) H2) E
  simpa only [List.append_nil] using h
theorem t_par3 {k l m : Nat} (h : tr σ H fun vs H1 => ∃ u v w, vs = [u, v, w] ∧ D.nx (((σ.set k (some u)).set l (some v)).set m (some w)) H1) : tPar3 k l m tr D σ H := h
def ForW (J : L2.It) (g : TG) (tb : TS) (D : Ends) (σ : L2.St) (H1 : Hp) : Prop := ∃ W : Nat → Nat → L2.St → Hp → Prop, (∃ m, W 0 m σ H1) ∧ ∀ i m σ H, W i m σ H →
  (J.stop i H ∧ D.nx σ H) ∨ (J.go i H ∧ ∃ N : L2.St → Hp → Prop, (∀ σ' H', N σ' H' → ∃ m', m' < m ∧ W (i + 1) m' σ' H') ∧ ∀ x H', J.yld i H x H' → g x σ H' fun σ2 H2 => tb { D with nx := N, ct := N, bk := D.nx } σ2 H2)
theorem t_for1 {g : TG} (h : tr σ H fun vs H1 => ∃ j : Int, vs = [.int j] ∧ -(2 ^ 62) ≤ j ∧ j < 2 ^ 62 ∧ ForW (Itr 0 j.toNat) g ts D σ H1) : tFor (iRng1 tr) g ts D σ H := h
theorem t_forL {g : TG} (h : ta σ H fun x H1 => ∃ a, x = .ref a ∧ (∃ xs, SqL K H1 a xs) ∧ ForW (Itl K a) g ts D σ H1) : tFor (iList K ta) g ts D σ H := h
theorem t_forT {g : TG} (h : ta σ H fun x H1 => ∃ a, x = .ref a ∧ (∃ xs, SqT K H1 a xs) ∧ ForW (Itt K a) g ts D σ H1) : tFor (iTup K ta) g ts D σ H := h
theorem ex_rng {g : TG} {n : Nat} {j : Int} (hj : j = (n : Int)) (hn : n < 2 ^ 62) (Pv : Nat → L2.St → Hp → Prop) (h0 : Pv 0 σ H) (hs : ∀ (i : Nat) σ H, i < n → Pv i σ H → g (.int (i : Int)) σ H fun σ2 H2 => ts { D with nx := Pv (i + 1), ct := Pv (i + 1), bk := D.nx } σ2 H2)
    (hd : ∀ σ H, Pv n σ H → D.nx σ H) : -(2 ^ 62) ≤ j ∧ j < 2 ^ 62 ∧ ForW (Itr 0 j.toNat) g ts D σ H := by
  subst hj
  refine ⟨by omega, by omega, for_range (lo := 0) (n := n) Pv h0 (fun i σ H hi p => ?_) hd⟩
  rw [Int.zero_add]
  exact hs i σ H hi p
theorem ex_lst {g : TG} {a : Addr} {xs : List V} (hx : SqL K H a xs) (Pv : Nat → L2.St → Hp → Prop) (h0 : Pv 0 σ H) (hl : ∀ i σ H, i ≤ xs.length → Pv i σ H → SqL K H a xs)
    (hs : ∀ i x σ H, xs[i]? = some x → Pv i σ H → g x σ H fun σ2 H2 => ts { D with nx := Pv (i + 1), ct := Pv (i + 1), bk := D.nx } σ2 H2) (hd : ∀ σ H, Pv xs.length σ H → D.nx σ H) :
    ∃ b, V.ref a = .ref b ∧ (∃ xs, SqL K H b xs) ∧ ForW (Itl K b) g ts D σ H := ⟨a, rfl, ⟨xs, hx⟩, for_list Pv h0 hl hs hd⟩
theorem ex_tup {g : TG} {a : Addr} {xs : List V} (hx : SqT K H a xs) (Pv : Nat → L2.St → Hp → Prop) (h0 : Pv 0 σ H) (hl : ∀ i σ H, i ≤ xs.length → Pv i σ H → SqT K H a xs)
    (hs : ∀ i x σ H, xs[i]? = some x → Pv i σ H → g x σ H fun σ2 H2 => ts { D with nx := Pv (i + 1), ct := Pv (i + 1), bk := D.nx } σ2 H2) (hd : ∀ σ H, Pv xs.length σ H → D.nx σ H) :
    ∃ b, V.ref a = .ref b ∧ (∃ xs, SqT K H b xs) ∧ ForW (Itt K b) g ts D σ H := ⟨a, rfl, ⟨xs, hx⟩, for_tup Pv h0 hl hs hd⟩
theorem dpAll_ints : ∀ ns : List Int, DpAll K H (ns.map V.int) (ns.map PyData.int)
  | [] => .nil
  | n :: r => .cons (.int n) (dpAll_ints r)
theorem r_neNil {p q : Addr} {ns : List Int} (h1 : SqL K H p (ns.map V.int)) (h2 : SqL K H q []) (h : Q (.bl (!ns.isEmpty)) H) : rNeD K (.ref p) (.ref q) H Q := by
  refine ⟨_, _, .lst h1 (dpAll_ints ns), .lst h2 .nil, PySem.W.ke_shaped_ints ns, by decide, ?_⟩
  cases ns with
  | nil => exact h
  | cons n r => exact h
theorem c_len {p : Addr} {xs : List V} {P : List V → Prop} (h : SqL K H p xs ∨ SqT K H p xs) (q : P xs) : ∃ a ys, [V.ref p] = [.ref a] ∧ (SqL K H a ys ∨ SqT K H a ys) ∧ P ys := ⟨p, xs, rfl, h, q⟩
theorem c_abs {P : Int → Prop} (h : P i) : ∃ k, [V.int i] = [.int k] ∧ P k := ⟨i, rfl, h⟩
theorem ex_par3 {z : V} {P : V → V → V → Prop} (h : P x y z) : ∃ v w u, [x, y, z] = [v, w, u] ∧ P v w u := ⟨x, y, z, rfl, h⟩
theorem abs_lt60 {i : Int} : decide ((if i < 0 then -i else i) < 10 ^ Int.toNat 60) = decide (i.natAbs < 10 ^ 60) := by
  have e : (10 : Int) ^ Int.toNat 60 = ((10 ^ 60 : Nat) : Int) := by decide
  rw [e]
  generalize (10 ^ 60 : Nat) = n
  by_cases h : i.natAbs < n
  · rw [decide_eq_true h, decide_eq_true]; split <;> omega
  · rw [decide_eq_false h, decide_eq_false]; split <;> omega
end
theorem cut63 {ns : List Int} (h : ns.length ≤ 63) : cutV (ns.map V.int) none (some 63) = ns.map V.int := by
  have e1 : HT.sIx (ns.map V.int).length 0 none = 0 := rfl
  have e2 : HT.sIx (ns.map V.int).length (ns.map V.int).length (some 63) = ns.length := by
    unfold HT.sIx
    simp only [List.length_map]
    first | omega | (split <;> omega) | (simp; omega)
  unfold cutV
  rw [e1, e2, List.drop_zero, Nat.sub_zero, ← List.length_map (f := V.int), List.take_length]
theorem at_ints {ns : List Int} {i : Int} (h0 : 0 ≤ i) (h1 : i < ns.length) : ∃ c, atI (ns.map V.int) i = some (.int c) := by
  obtain ⟨j, rfl⟩ : ∃ j : Nat, i = j := ⟨i.toNat, by omega⟩
  have hj : j < ns.length := by omega
  refine ⟨ns[j], ?_⟩
  unfold atI
  rw [List.length_map, Evl.ixN_nat hj]
  simp [hj]
theorem at_mem {xs : List V} {i : Int} (h0 : 0 ≤ i) (h1 : i < xs.length) : ∃ v, atI xs i = some v ∧ v ∈ xs := by
  obtain ⟨j, rfl⟩ : ∃ j : Nat, i = j := ⟨i.toNat, by omega⟩
  have hj : j < xs.length := by omega
  refine ⟨xs[j], ?_, List.getElem_mem hj⟩
  unfold atI
  rw [Evl.ixN_nat hj]
  simp [hj]
theorem t_cut {D : Ends} {σ : L2.St} {H : Hp} {ts us : TS} (Mid : L2.St → Hp → Prop) (h1 : ts { D with nx := Mid } σ H) (h2 : ∀ σ' H', Mid σ' H' → us D σ' H') : Evl.tCut ts us D σ H := ⟨Mid, h1, h2⟩
theorem mix_lt {b s k m c : Int} (b0 : 0 ≤ b) (b1 : b < 2147483648) (s0 : 0 ≤ s) (s1 : s ≤ 4000000) (k0 : 0 ≤ k) (k1 : k ≤ 1000) (m0 : 0 ≤ m) (m1 : m ≤ 100000) (c0 : 0 ≤ c) (c1 : c ≤ 1000) : (b * (2 * s + k) + m * s * s + c).natAbs < 2 ^ 64 := by
  have h1 : b * (2 * s + k) ≤ 2147483648 * 8001000 := Int.mul_le_mul (by omega) (by omega) (by omega) (by omega)
  have h2 : 0 ≤ b * (2 * s + k) := Int.mul_nonneg b0 (by omega)
  have h3 : m * s ≤ 100000 * 4000000 := Int.mul_le_mul m1 s1 s0 (by omega)
  have h4 : 0 ≤ m * s := Int.mul_nonneg m0 s0
  have h5 : m * s * s ≤ (100000 * 4000000) * 4000000 := Int.mul_le_mul h3 s1 s0 (by omega)
  have h6 : 0 ≤ m * s * s := Int.mul_nonneg h4 s0
  omega
theorem Go.set {p : Addr} {H : Hp} {o : HO} : Go p H (upd H p o) := fun b u n e => by rw [upd_ne n]; exact e
theorem if_int {b : Bool} {σ : L2.St} {H : Hp} {Q : VK} {ta tb : TE} {i j : Int} (h1 : ∀ Q : VK, Q (.int i) H → ta σ H Q) (h2 : ∀ Q : VK, Q (.int j) H → tb σ H Q) (h : Q (.int (if b = true then i else j)) H) : if b = true then ta σ H Q else tb σ H Q := by
  cases b with
  | true => exact h1 Q h
  | false => exact h2 Q h
/-! ### days -/
def DayAt (C : Addr) (H : Hp) (a : Addr) (L : Int) : Prop := (1 ≤ L ∧ L ≤ 1000000000000) ∧ ∃ dx, H a = some (.ins C dx [("length", .int L)])
theorem DayAt.same {C : Addr} {H H' : Hp} {a : Addr} {L : Int} (d : DayAt C H a L) (s : Same H H') : DayAt C H' a L := ⟨d.1, let ⟨dx, h⟩ := d.2; ⟨dx, s _ _ h⟩⟩
theorem DayAt.go {C p : Addr} {H H' : Hp} {a : Addr} {L : Int} {n : Nat} (d : DayAt C H a L) (P : Pen p H n) (g : Go p H H') : DayAt C H' a L := ⟨d.1, let ⟨dx, h⟩ := d.2; ⟨dx, ((P.ins h).go g).at_⟩⟩
theorem DayAt.new {C q : Addr} {H : Hp} {a : Addr} {L : Int} {o : HO} (d : DayAt C H a L) (h : H q = none) : DayAt C (upd H q o) a L := d.same (Same.new h)
def spLongBy : Sp := fun vs H Q _ => ∃ L k : Int, vs = [.int L, .int k] ∧ (1 ≤ L ∧ L ≤ 1000000000000) ∧ (1 ≤ k * L ∧ k * L ≤ 1000000000000) ∧ Q (.int (k * L)) H
def spDayInit (C : Addr) : Sp := fun vs H Q _ => ∃ (a dx : Addr) (L : Int), vs = [.ref a, .int L] ∧ (1 ≤ L ∧ L ≤ 1000000000000) ∧ H a = some (.ins C dx []) ∧ Q .non (upd H a (.ins C dx [("length", .int L)]))
def spRmod (C : Addr) : Sp := fun vs H Q _ => ∃ (a : Addr) (m L : Int), vs = [.ref a, .int m] ∧ DayAt C H a L ∧ m.natAbs < 10 ^ 60 ∧ Q (.int (m % L)) H
def spRfdiv (C : Addr) : Sp := fun vs H Q _ => ∃ (a : Addr) (m L : Int), vs = [.ref a, .int m] ∧ DayAt C H a L ∧ m.natAbs < 10 ^ 60 ∧ Q (.int (m / L)) H
def spForward (C : Addr) : Sp := fun vs H Q _ => ∃ (a : Addr) (m n L : Int), vs = [.ref a, .int m, .int n] ∧ DayAt C H a L ∧ m.natAbs < 10 ^ 60 ∧ n.natAbs < 10 ^ 60 ∧ ∀ H', Same H H' → Q (.int ((n - m) % L)) H'
def spDayMul (C : Addr) : Sp := fun vs H Q _ => ∃ (a : Addr) (k L : Int), vs = [.ref a, .int k] ∧ DayAt C H a L ∧ (1 ≤ k * L ∧ k * L ≤ 1000000000000) ∧ ∀ b H', Same H H' → H b = none → DayAt C H' b (k * L) → Q (.ref b) H'
def spDayEq (C : Addr) : Sp := fun vs H Q _ => ∃ (a b : Addr) (L M : Int), vs = [.ref a, .ref b] ∧ DayAt C H a L ∧ DayAt C H b M ∧ Q (.bl (decide (L = M))) H
theorem make_day {C : Addr} {H : Hp} {L : Int} {R : Addr → Hp → Prop} {E : XK} (hL : 1 ≤ L ∧ L ≤ 1000000000000) (h : ∀ b H', Same H H' → H b = none → DayAt C H' b L → R b H') :
    ∀ x dx, H x = none → H dx = none → dx ≠ x → spDayInit C [.ref x, .int L] (upd (upd H dx (.own x)) x (.ins C dx [])) (fun v H2 => v = .non ∧ R x H2) E := by
  intro x dx hx hd ne
  refine ⟨x, dx, L, rfl, hL, upd_same, rfl, h x _ (fun b o e => ?_) hx ⟨hL, dx, upd_same⟩⟩
  rw [upd_ne (ne_of_none e hx), upd_ne (ne_of_none e hx), upd_ne (ne_of_none e hd)]
  exact e
section
variable {K : PySem.W.Frag} {C a b : Addr} {H : Hp} {Q : VK} {E : XK} {L M m n k : Int} {R : Prop}
theorem notFirst_self : PySem.W.notFirst K C (.ref C) = true := by unfold PySem.W.notFirst; simp
theorem r_rmod (d : DayAt C H a L) (hm : m.natAbs < 10 ^ 60) (q : Q (.int (m % L)) H) : rRefl C (spRmod C) E (.int m) (.ref a) H Q := by
  obtain ⟨_, dx, h⟩ := id d
  exact ⟨m, a, dx, _, rfl, rfl, h, a, m, L, rfl, d, hm, q⟩
theorem r_rfdiv (d : DayAt C H a L) (hm : m.natAbs < 10 ^ 60) (q : Q (.int (m / L)) H) : rRefl C (spRfdiv C) E (.int m) (.ref a) H Q := by
  obtain ⟨_, dx, h⟩ := id d
  exact ⟨m, a, dx, _, rfl, rfl, h, a, m, L, rfl, d, hm, q⟩
theorem x_fwd (d : DayAt C H a L) (k : R) : ∃ a' dx fs, V.ref a = V.ref a' ∧ H a' = some (.ins C dx fs) ∧ fs.lookup ("forward" : Str) = none ∧ R := by
  obtain ⟨_, dx, h⟩ := id d
  exact ⟨a, dx, _, rfl, h, rfl, k⟩
theorem s_fwd (d : DayAt C H a L) (hm : m.natAbs < 10 ^ 60) (hn : n.natAbs < 10 ^ 60) (k : ∀ H', Same H H' → Q (.int ((n - m) % L)) H') : spForward C [.ref a, .int m, .int n] H Q E := ⟨a, m, n, L, rfl, d, hm, hn, k⟩
theorem r_dmul (d : DayAt C H a L) (hk : 1 ≤ k * L ∧ k * L ≤ 1000000000000) (q : ∀ b H', Same H H' → H b = none → DayAt C H' b (k * L) → Q (.ref b) H') : rOwnL K C "int" (spDayMul C) E (.ref a) (.int k) H Q := by
  obtain ⟨_, dx, h⟩ := id d
  exact ⟨a, dx, _, rfl, h, .base (.int k), a, k, L, rfl, d, hk, q⟩
theorem r_rdmul (d : DayAt C H a L) (hk : 1 ≤ k * L ∧ k * L ≤ 1000000000000) (q : ∀ b H', Same H H' → H b = none → DayAt C H' b (k * L) → Q (.ref b) H') : rRefl C (spDayMul C) E (.int k) (.ref a) H Q := by
  obtain ⟨_, dx, h⟩ := id d
  exact ⟨k, a, dx, _, rfl, rfl, h, a, k, L, rfl, d, hk, q⟩
theorem r_deq (I : IsC K C) (d : DayAt C H a L) (e : DayAt C H b M) (q : Q (.bl (decide (L = M))) H) : rCmpO K C (spDayEq C) E (.ref a) (.ref b) H Q := by
  obtain ⟨_, dx, h⟩ := id d
  obtain ⟨_, dy, h2⟩ := id e
  exact ⟨a, dx, _, _, rfl, h, I.ty h2, notFirst_self, a, b, L, M, rfl, d, e, q⟩
theorem r_dne (I : IsC K C) (d : DayAt C H a L) (e : DayAt C H b M) (q : Q (.bl (!decide (L = M))) H) : rNeO K C (spDayEq C) E (.ref a) (.ref b) H Q := by
  obtain ⟨_, dx, h⟩ := id d
  obtain ⟨_, dy, h2⟩ := id e
  exact ⟨a, dx, _, _, rfl, h, I.ty h2, notFirst_self, a, b, L, M, rfl, d, e, _, rfl, q⟩
theorem x_len (c : Cls K C) (n : NoAttr K C "length") (d : DayAt C H a L) {P : V → Prop} (q : P (.int L)) : ∃ a' C' dx fs v, V.ref a = V.ref a' ∧ H a' = some (.ins C' dx fs) ∧ Cls K C' ∧ NoAttr K C' "length" ∧ fs.lookup ("length" : Str) = some v ∧ P v := by
  obtain ⟨_, dx, h⟩ := id d
  exact ⟨a, C, dx, _, _, rfl, h, c, n, rfl, q⟩
end
end Ol

namespace Ol
open PySem PySem.Spec PyProof.Rows L2
/-- a def's promise where no repr runs around the call -/
structure FnG (P : Program) (w : World) (K : PySem.W.Frag) (mg : Str → Option Value) (base : Heap) (CX : CXT) (k : Nat) (f : Addr) (fd : FuncData) (ps : List Str) (sp : Sp) : Prop where
  len : ∀ vs H Q E, sp vs H Q E → vs.length = ps.length
  run : ∀ (A : Around) (outer : List Env) (s : Shared) (H : Hp) (args : Args) (us : List Value) (vs : List V) (Q : VK) (E : XK), A.guards = some [] → Room k A → Env0 P w K mg base A outer s H → BindsTo s fd args (ps.zip us) → Vals vs us → sp vs H Q E →
    codeAny (model P w) A (.call (.ref f) args) (CR CX outer P w H s Q E) s
section
variable {P : Program} {w : World} {K : PySem.W.Frag} {mg : Str → Option Value} {base : Heap} {CX : CXT} {k : Nat} {f : Addr} {fd : FuncData} {ps : List Str} {sp : Sp}
theorem FnG.of (F : FnOk P w K mg base CX k f fd ps sp) : FnG P w K mg base CX k f fd ps sp := ⟨F.len, fun A o s H a u v Q E _ => F.run A o s H a u v Q E⟩
/-- a def by its body, where no repr runs around it -/
theorem Fun.okG {x qual : Str} {st : Stmt} {N : List Str} (F : Fun K x qual st f fd) (S : FnScope N ps (defScope st)) (len : ∀ vs H Q E, sp vs H Q E → vs.length = ps.length)
    (hbody : ∀ (cdv : Value) (A : Around) (outer : List Env) (s : Shared) (H : Hp) (vs : List V) (Q : VK) (E : XK), (A.deeper (envOfC qual (defScope st) s.heap.objs.size f cdv)).guards = some [] → Room k (A.deeper (envOfC qual (defScope st) s.heap.objs.size f cdv)) → sp vs H Q E →
      ∃ t, PSs (cxOf CX P w K mg base N qual (defScope st) f cdv A outer s H E) (defBody st) t ∧ t { nx := fun _ H' => Q .non H', rt := Q } (L2.start N vs) H) : FnG P w K mg base CX (k + 1) f fd ps sp := by
  obtain ⟨oc, od, kV, doc, pm, an, cdv, ct, osl, rfl, lk, hcd⟩ := F.ex
  refine ⟨len, fun A outer s H args us vs Q E hg hr e0 hb r hsp => ?_⟩
  have hk : ∀ b o, base.get? b = some o → s.heap.get? b = some o := fun b o e => (e0.bs b o e).1
  have KX := e0.mod.kin.keeps hk
  refine codeAny_call_function hr.depth (KX _ _ lk) rfl S.co S.gen rfl (PySem.W.codeRec_of KX hcd) (hb _ _ _ _ ?_)
  refine wpAny_newFunctionEnv_cells S.kind (fun y hy => ?_) fun env he s1 x => ?_
  · rcases S.par y.1 (List.of_mem_zip hy).1 with q | q
    · exact .inl q
    · exact .inr ⟨q, PySem.W.cellsFrom_some _ _ _ (.inl q)⟩
  subst he
  refine ⟨(e0.mod.nolimit.keeps hk).keeps x.toInCall.keep, codeAny_func ?_⟩
  obtain ⟨t, ht, hq⟩ := hbody cdv A outer s H vs Q E hg (hr.deeper _) hsp
  have I : Inv (cxOf CX P w K mg base N qual (defScope st) f cdv A outer s H E) [] (L2.start N vs) H s1 := inv_start S hr.hd e0 (len _ _ _ _ hsp) r x
  refine wpAny_mono (ht.run [] s1 _ H _ I hq) (fun fl s' hs => ?_) fun e s' hs => hs
  cases fl with
  | ret u =>
    obtain ⟨v, σ', H', J, rv, q⟩ := hs
    exact ⟨v, H', J.os, J.bare, J.base, J.hok, rv, q⟩
  | next =>
    obtain ⟨σ', H', J, q⟩ := hs
    exact ⟨.non, H', J.os, J.bare, J.base, J.hok, rfl, q⟩
  | brk =>
    obtain ⟨_, _, _, q⟩ := hs
    exact False.elim q
  | cont =>
    obtain ⟨_, _, _, q⟩ := hs
    exact False.elim q
end
section
variable {X : Cx} {CX : CXT} {k : Nat} {f C : Addr} {fd : FuncData} {ps : List Str} {sp : Sp} {E : XK} {x : Str} {p pos : Pos} {e : Expr} {es : List Expr} {t : TA}
theorem run_fnG {pins : List (Addr × Obj)} {σ : L2.St} {H : Hp} {s : Shared} {Q : VK} {us : List Value} {vs : List V} (F : FnG X.prog X.w X.K X.mg X.base CX k f fd ps sp) (hg : X.A.guards = some []) (hr : Room k X.A) (hb : Binds X.K fd ps []) (hx : Passes CX X E)
    (I : Inv X pins σ H s) (r : Vals vs us) (h : sp vs H Q E) : wpAny (model X.prog X.w) X.A (call (.ref f) us) (EP X pins σ Q) X.xe s := by
  have hl : us.length = ps.length := by rw [← r.length]; exact F.len _ _ _ _ h
  have hb' := hb s us I.kIn (by rw [List.append_nil]; exact hl)
  rw [List.append_nil] at hb'
  refine wpAny_call (codeAny_mono (F.run X.A X.stack s H ⟨us, []⟩ us vs Q E hg hr I.env0 hb' r h) fun r s' hq => ?_)
  cases r with
  | error e => exact hx pins σ H s e s' I hq
  | ok fl =>
    cases fl with
    | ret u => exact I.after hq
    | next => exact False.elim hq
    | brk => exact False.elim hq
    | cont => exact False.elim hq
theorem pe_callG (F : FnG X.prog X.w X.K X.mg X.base CX k f fd ps sp) (hgd : X.A.guards = some []) (hr : Room k X.A) (hg : Gl X x) (hm : X.mg x = some (.ref f)) (hk : PySem.W.keepIn X.K (.ref f) = true) (hb : Binds X.K fd ps []) (hx : Passes CX X E)
    (ha : PA X (e :: es) t) (hdb : (x == ("__debug__" : Str)) = false := by decide) (he : starEach (e :: es) X.env = (false, eval e X.env) :: starEach es X.env := by rfl) (hpl : (backTo pos (starEach es X.env)).any (·.1) = false := by rfl) :
    PE X (.Call (.Name x p) (e :: es) [] pos) (tCall sp [] E t) := by
  refine ⟨fun pins s σ H Q I h => ?_⟩
  refine wpAny_Call_Name_kw (ld_glob I hg hm ?_ hdb)
  refine PySem.W.callWith_K (h₀ := X.base) I.ok.mod.kin hk (thn (ha.run pos pins s σ H _ I h) fun us s1 ⟨vs, H1, I1, r, q⟩ => ⟨I1.kIn, ?_⟩) he hpl
  have q' : sp (vs ++ []) H1 Q E := q
  rw [List.append_nil] at q'
  exact run_fnG F hgd hr hb hx I1 r q'
theorem pe_call0G (F : FnG X.prog X.w X.K X.mg X.base CX k f fd ps sp) (hgd : X.A.guards = some []) (hr : Room k X.A) (hg : Gl X x) (hm : X.mg x = some (.ref f)) (hk : PySem.W.keepIn X.K (.ref f) = true) (hb : Binds X.K fd ps []) (hx : Passes CX X E)
    (hdb : (x == ("__debug__" : Str)) = false := by decide) : PE X (.Call (.Name x p) [] [] pos) (tCall sp [] E tNil) := by
  refine ⟨fun pins s σ H Q I h => ?_⟩
  refine wpAny_Call_Name_kw (ld_glob I hg hm ?_ hdb)
  exact PySem.W.callWith_K0 I.kIn hk (run_fnG (us := []) F hgd hr hb hx I .nil h)
/-- data that repr shows in at most n signs -/
structure Sh (d : PyData) (n k : Nat) : Prop where
  s : d.showable = true
  h : d.hasDict = false
  l : d.shown.length ≤ n
  k : d.depth ≤ k
theorem Sh.le {d : PyData} {n m k j : Nat} (x : Sh d n k) (h : n ≤ m) (h2 : k ≤ j) : Sh d m j := ⟨x.s, x.h, Nat.le_trans x.l h, Nat.le_trans x.k h2⟩
theorem Sh.none : Sh .none 4 0 := ⟨rfl, rfl, by decide, Nat.le_refl _⟩
theorem Sh.bool (b : Bool) : Sh (.bool b) 5 0 := ⟨rfl, rfl, by cases b <;> decide, Nat.le_refl _⟩
theorem Sh.int {i : Int} (h : i.natAbs < 10 ^ 75) : Sh (.int i) 76 0 := by
  have e : i.natAbs < 2 ^ 250 := Nat.lt_trans h (by decide)
  refine ⟨decide_eq_true (Nat.lt_of_lt_of_le (PySem.Flt.log2_lt_of (by decide) e) (by decide)), rfl, ?_, Nat.le_refl _⟩
  show (Str.ofString (toString i)).length ≤ 76
  have h1 := int_text_length_le10 (a := i) (k := 75) (by decide) h
  rw [PyProof.Rows.ofString_len]
  exact h1
theorem shAll {n k : Nat} : ∀ {ds : List PyData}, (∀ d ∈ ds, Sh d n k) → PyData.showableAll ds = true ∧ PyData.hasDictAll ds = false ∧ ((PyData.shownAll ds).map (·.length)).sum ≤ ds.length * n ∧ PyData.depthAll ds ≤ k
  | [], _ => ⟨rfl, rfl, by simp [PyData.shownAll], Nat.zero_le _⟩
  | d :: r, h => by
    obtain ⟨h1, h2, h3, h4⟩ := shAll fun e he => h e (List.mem_cons_of_mem _ he)
    have x := h d List.mem_cons_self
    refine ⟨?_, ?_, ?_, ?_⟩
    · show (d.showable && PyData.showableAll r) = true
      rw [x.s, h1]; rfl
    · show (d.hasDict || PyData.hasDictAll r) = false
      rw [x.h, h2]; rfl
    · show ((d.shown :: PyData.shownAll r).map (·.length)).sum ≤ (d :: r).length * n
      rw [List.map_cons, List.sum_cons, List.length_cons, Nat.add_mul, Nat.one_mul]
      have := x.l
      omega
    · show max d.depth (PyData.depthAll r) ≤ k
      exact Nat.max_le.mpr ⟨x.k, h4⟩
theorem Sh.list {ds : List PyData} {n k : Nat} (h : ∀ d ∈ ds, Sh d n k) : Sh (.list ds) (ds.length * n + 2 * ds.length + 3) (k + 1) := by
  obtain ⟨h1, h2, h3, h4⟩ := shAll h
  refine ⟨h1, h2, ?_, ?_⟩
  · have a := listText_len_le (PyData.shownAll ds)
    have b := PyData.shownAll_length ds
    show (listText (PyData.shownAll ds)).length ≤ _
    omega
  · show PyData.depth (.list ds) ≤ k + 1
    simp only [PyData.depth]
    omega
theorem Sh.tuple {ds : List PyData} {n k : Nat} (h : ∀ d ∈ ds, Sh d n k) : Sh (.tuple ds) (ds.length * n + 2 * ds.length + 3) (k + 1) := by
  obtain ⟨h1, h2, h3, h4⟩ := shAll h
  refine ⟨h1, h2, ?_, ?_⟩
  · have a := tupleText_len_le (PyData.shownAll ds)
    have b := PyData.shownAll_length ds
    show (tupleText (PyData.shownAll ds)).length ≤ _
    omega
  · show PyData.depth (.tuple ds) ≤ k + 1
    simp only [PyData.depth]
    omega
/-- repr of data: None, bools, numbers, texts, lists, tuples -/
def rRepr (K : PySem.W.Frag) : List V → Hp → VK → Prop := fun xs H Q => ∃ (x : V) (d : PyData) (n : Nat), xs = [x] ∧ Dp K H x d ∧ Sh d n 40 ∧ n ≤ sizeLine ∧ Q (.str d.shown) H
theorem call_reprD {k : Nat} (hgd : X.A.guards = some []) (hr : Room k X.A) : CallR X (.builtin "repr") (rRepr X.K) := by
  intro pins s σ H xs us Q I r h
  obtain ⟨x, d, n, rfl, dp, sh, hn, q⟩ := h
  obtain ⟨u, rfl, ru⟩ := vals1 r
  have hz := Nat.le_trans sh.l hn
  cases dp with
  | non => cases (show u = Value.none from ru); exact PySem.P.repr_of_none ⟨.str _, H, I.tok _, ⟨_, rfl⟩, q⟩
  | bl b => cases (show u = Value.bool b from ru); exact PySem.P.repr_of_bool ⟨.str _, H, I.tok _, ⟨_, by cases b <;> rfl⟩, q⟩
  | int i => obtain ⟨t, e⟩ := (show ∃ t, u = Value.int i t from ru); cases e; exact PySem.P.repr_of_int (of_decide_eq_true sh.s) ⟨.str _, H, I.tok _, ⟨_, rfl⟩, q⟩
  | str y => obtain ⟨t, e⟩ := (show ∃ t, u = Value.str y t from ru); cases e; exact PySem.P.repr_of_str ⟨.str _, H, I.tok _, ⟨_, rfl⟩, q⟩ hz
  | @lst a ys ds h1 h2 =>
    cases (show u = Value.ref a from ru)
    obtain ⟨as, rd⟩ := Dp.reads I _ _ _ (.lst h1 h2) rfl
    exact repr_of_reads' rd sh.s (PyData.noDict_hsm sh.h) hgd (by have := sh.k; have := hr.un; omega) (fun _ _ e => e) (fun h' t tk hk => ⟨.str _, H, I.kept hk, ⟨_, rfl⟩, q⟩) hz
  | @tup a ys ds h1 h2 =>
    cases (show u = Value.ref a from ru)
    obtain ⟨as, rd⟩ := Dp.reads I _ _ _ (.tup h1 h2) rfl
    exact repr_of_reads' rd sh.s (PyData.noDict_hsm sh.h) hgd (by have := sh.k; have := hr.un; omega) (fun _ _ e => e) (fun h' t tk hk => ⟨.str _, H, I.kept hk, ⟨_, rfl⟩, q⟩) hz
end
/-! ### the end, where no repr runs around the law's call -/
def lawHp (a : Addr) (o : Obj) (xs : List V) : Hp := fun b => if b = a then some (.frz o (.lst xs)) else none
theorem walk_ofG {l : PySem.W.OpenLaw} {n k : Nat} {q : Program} {loose : List Str} {XP : (Str → Option Value) → Heap → Prop} {YP : World → Heap → Prop} {d : DefRec} {K : Params → PySem.W.Frag} {CX : World → CXT} {sp : World → Sp} {x : Str}
    (hn : l.most = some n) (hn2 : n ≤ sizeLine) (hdf : d.params.defaults = []) (hr : Room k callerA)
    (hY : ∀ (w : World) (h : Heap), YP w h → (K w.params).In h)
    (F : ∀ (w : World) (mg : Str → Option Value) (fa : Addr) (h : Heap), (K w.params).In h → h.Ns mainGlobals mg → mg d.name = some (.ref fa) →
      ∃ fd : FuncData, (∀ (s : Shared) (u : Value), BindsTo s fd ⟨[u], []⟩ [(x, u)]) ∧
        ∀ base : Heap, (K w.params).In base → base.Ns mainGlobals mg → FnG l.prog w (K w.params) mg base (CX w) k fa fd [x] (sp w))
    (hsp : ∀ (w : World) (H : Hp) (a : Addr) (ns : List Int), ns.length ≤ n → Only H → SqL (K w.params) H a (ns.map V.int) → sp w [.ref a] H (fun v _ => v = .bl true) fun _ _ _ => False)
    (hCX : ∀ (w : World) (H : Hp) (s : Shared) (e : Value) (s' : Shared), CX w [] H s (fun _ _ _ => False) e s' → False) :
    PySem.W.WalkO q loose XP YP l.row.toRowW d [] (fun f vs => PySem.call f vs) := by
  refine Att.attach_call hn hdf fun w s₀ s₁ mg mb fa o pm cd doc a vs ns G Y ho hd hcd hmg hobj hints hlen hg => ?_
  have KX := hY w _ Y
  obtain ⟨fd, hb, hF⟩ := F w mg fa _ KX G.T.g hmg
  have rv : Vals (ns.map V.int) vs := vals_ints hints
  have lenV := hints.length
  have hl := Nat.le_trans hlen hn2
  have core : ∀ H : Hp, Only H → SqL (K w.params) H a (ns.map V.int) → HOk l.prog w H s₁.heap → (∀ b, H b ≠ none → b = a) → (H a ≠ none → (K w.params).lookup a = none) →
      codeAny (model l.prog w) callerA (.call (.ref fa) ⟨[.ref a], []⟩) (fun r s' => r = .ok (.ret (.bool true)) ∧ OldK s₁.heap s'.heap ∧ s'.os = s₁.os ∧ AllBare s'.gens) s₁ := by
    intro H hO hS hok hA hK
    have free : ∀ {b : Addr} {o : Obj}, s₁.heap.get? b = some o → (b = a → False) → H b = none := fun {b o} e n => by
      cases z : H b with
      | none => rfl
      | some u => exact (n (hA b (by rw [z]; simp))).elim
    have nsK : ∀ {b : Addr} {m : Str → Option Value}, s₁.heap.Ns b m → (hidT s₁.heap H).Ns b m := fun {b m} ⟨o, es, ep, e, d, r⟩ => ⟨o, es, ep, hidT_get e (free e fun z => by
      subst z
      rw [hobj] at e; cases e
      exact nomatch (show Data.seq vs.toArray _ = Data.dict es ep from d)), d, r⟩
    have hKb : (K w.params).In (hidT s₁.heap H) := fun b o e => hidT_get (KX b o e) (by
      cases z : H b with
      | none => rfl
      | some u =>
        have e' : b = a := hA b (by rw [z]; simp)
        subst e'
        rw [hK (by rw [z]; simp)] at e; cases e)
    have hM : Mod (K w.params) mg (hidT s₁.heap H) := ⟨hKb, nsK G.T.g, ⟨mb, nsK G.T.b, G.T.builtins⟩, let ⟨mc, h1, h2⟩ := G.T.nolimit; ⟨mc, nsK h1, h2⟩⟩
    have e0 : Env0 l.prog w (K w.params) mg (hidT s₁.heap H) callerA [] s₁ H := ⟨rfl, hM, fun b o e => of_hidT e, Nat.le_of_eq (hidT_size _ _), trivial, fun b hb => absurd (show b ∈ ([] : List Addr) from hb) (by simp), hok, .of_eq hg⟩
    refine codeAny_mono ((hF _ hKb (nsK G.T.g)).run callerA [] s₁ H ⟨[.ref a], []⟩ [.ref a] [.ref a] _ _ rfl hr e0 (hb s₁ (.ref a)) (.cons rfl .nil) (hsp w H a ns hlen hO hS)) fun r s' h => ?_
    cases r with
    | error e => exact (hCX w H s₁ e s' h).elim
    | ok fl =>
      cases fl with
      | next => exact False.elim h
      | brk => exact False.elim h
      | cont => exact False.elim h
      | ret u =>
        obtain ⟨v, H', os, bare, un, hok', r', q⟩ := h
        cases (show v = .bl true from q)
        cases (show u = Value.bool true from r')
        refine ⟨rfl, OldK.of_keep fun b o e => ?_, os, bare⟩
        cases z : H b with
        | none => exact un.keep b o e z (by intro y; exact absurd (show b ∈ ([] : List Addr) from y) (by simp)) (by simp)
        | some u =>
          rcases hO b with y | ⟨ob, xs, y⟩
          · rw [z] at y; cases y
          · obtain ⟨e1, _⟩ := hok b _ y
            obtain ⟨e2, _⟩ := hok' b _ (un.frzs b ob _ y)
            rw [e] at e1; cases e1
            exact e2
  cases hk : (K w.params).lookup a with
  | some o =>
    have e := KX a o hk
    rw [hobj] at e
    cases e
    exact core (fun _ => none) (fun _ => .inl rfl) (.inr ⟨_, vs.toArray, _, hk, rfl, rfl, rfl, by rw [List.size_toArray, lenV]; exact hl, by simpa using rv⟩) (fun b u z => nomatch (show (none : Option HO) = some u from z)) (fun b z => absurd rfl z) fun z => absurd rfl z
  | none =>
    have at_a : lawHp a { cls := .type "list", data := .seq vs.toArray } (ns.map V.int) a = some (.frz { cls := .type "list", data := .seq vs.toArray } (.lst (ns.map V.int))) := if_pos rfl
    have off : ∀ b, b ≠ a → lawHp a { cls := .type "list", data := .seq vs.toArray } (ns.map V.int) b = none := fun b h => if_neg h
    refine core (lawHp a { cls := .type "list", data := .seq vs.toArray } (ns.map V.int)) (fun b => ?_) (.inl (.inr ⟨_, at_a⟩)) (fun b u z => ?_) (fun b z => ?_) fun _ => hk
    · by_cases hb : b = a
      · subst hb; exact .inr ⟨_, _, at_a⟩
      · exact .inl (off b hb)
    · by_cases hb : b = a
      · subst hb
        rw [at_a] at z; cases z
        exact ⟨hobj, by rw [List.length_map]; exact hl, vs, _, rv, hobj⟩
      · rw [off b hb] at z; cases z
    · by_cases hb : b = a
      · exact hb
      · exact absurd (off b hb) z
end Ol

namespace Ol
open PySem PySem.W PySem.Calls PyProof.Rows L2
/-! ### keywords -/
def perm {α : Type} (is : List Nat) (us ws : List α) : List α := us ++ is.filterMap fun i => ws[i]?
theorem vals_pick {zs : List V} {ws : List Value} (r : Vals zs ws) : ∀ is : List Nat, Vals (is.filterMap fun i => zs[i]?) (is.filterMap fun i => ws[i]?)
  | [] => .nil
  | i :: is => by
    rw [List.filterMap_cons, List.filterMap_cons]
    cases h : zs[i]? with
    | none => rw [r.none_of h]; exact vals_pick r is
    | some v =>
      obtain ⟨u, e, q⟩ := r.get h
      rw [e]
      exact .cons q (vals_pick r is)
theorem Fun.kbn {K : Frag} {x qual : Str} {st : Stmt} {f : Addr} {fd : FuncData} {ps ks : List Str} (F : Fun K x qual st f fd) (n : Nat) (is : List Nat)
    (h : ∀ (kV doc pm : Value) (an : Option Addr) (cdv ct : Value) (us ws : List Value), us.length = n → ws.length = ks.length → bindArgs (PySem.W.fnOf x qual (defArgs st) (defBody st) (defScope st) .none kV doc pm an cdv ct) ⟨us, ks.zip ws⟩ = pure (ps.zip (perm is us ws))) :
    KBn K fd ps n ks (perm is) (perm is) := by
  obtain ⟨oc, od, kV, doc, pm, an, cdv, ct, osl, rfl, lk, hcd⟩ := F.ex
  exact ⟨fun s us ws _ h1 h2 => .of_eq (h kV doc pm an cdv ct us ws h1 h2), fun r1 r2 => r1.append (vals_pick r2 is)⟩
/-- o.m(k = v, ..) -/
def tMethK (C : Addr) (m : Str) (n : Nat) (sp : Sp) (gV : List V → List V → List V) (E : XK) (ta : TE) (tk : TA) : TE := fun σ H Q => ta σ H fun x H1 => ∃ a dx fs, x = .ref a ∧ H1 a = some (.ins C dx fs) ∧ fs.lookup m = none ∧ tk σ H1 fun zs H2 => zs.length = n ∧ sp (gV [x] zs) H2 Q E
section
variable {X : Cx} {CX : CXT} {k n : Nat} {f C : Addr} {fd : FuncData} {ps ks : List Str} {sp : Sp} {E : XK} {x m : Str} {p pos apos : Pos} {o e : Expr} {es : List Expr} {kws : List Keyword} {ta : TE} {t tk : TA} {g : List Value → List Value → List Value} {gV : List V → List V → List V}
  {pins : List (Addr × Obj)} {σ : L2.St} {H : Hp} {s : Shared}
theorem run_kw {Q : VK} {us ws : List Value} {vs zs : List V} (F : FnOk X.prog X.w X.K X.mg X.base CX k f fd ps sp) (hr : Room k X.A) (hb : KBn X.K fd ps n ks g gV) (hx : Passes CX X E)
    (I : Inv X pins σ H s) (r : Vals vs us) (rz : Vals zs ws) (l1 : vs.length = n) (l2 : zs.length = ks.length) (h : sp (gV vs zs) H Q E) : wpAny (model X.prog X.w) X.A (call (.ref f) us (ks.zip ws)) (EP X pins σ Q) X.xe s := by
  refine wpAny_call (codeAny_mono (F.run X.A X.stack s H ⟨us, ks.zip ws⟩ (g us ws) (gV vs zs) Q E hr I.env0 (hb.to s us ws I.kIn (r.length.symm.trans l1) (rz.length.symm.trans l2)) (hb.rel r rz) h) fun r s' hq => ?_)
  cases r with
  | error e => exact hx pins σ H s e s' I hq
  | ok fl =>
    cases fl with
    | ret u => exact I.after hq
    | next => exact False.elim hq
    | brk => exact False.elim hq
    | cont => exact False.elim hq
theorem pe_methK0 {pl : Sem Bool} (he : PE X o ta) (c : Cls X.K C) (hm : Meth X.K C m f) (F : FnOk X.prog X.w X.K X.mg X.base CX k f fd ps sp) (hr : Room k X.A) (hb : KBn X.K fd ps 1 ks g gV) (hx : Passes CX X E) (hkw : PK X kws tk)
    (hall : (backToKw pos (keywordEach kws X.env)).all (·.1.isSome) = true := by rfl) (hks : (backToKw pos (keywordEach kws X.env)).filterMap (·.1) = ks := by rfl)
    (hpl : ((backTo pos (starEach [] X.env)).any (·.1) || (backToKw pos (keywordEach kws X.env)).any (·.1.isNone)) = false := by rfl)
    (ht : eval (.Call (.Attribute o m apos) [] kws pos) X.env = (do
      let ov ← eval o X.env
      standAt apos.atName
      let (f, first) ← holding [ov] (getMethod ov m pl)
      callWith pos f first (backTo pos (starEach [] X.env)) (backToKw pos (keywordEach kws X.env))) := by rfl) :
    PE X (.Call (.Attribute o m apos) [] kws pos) (tMethK C m ks.length sp gV E ta tk) := by
  refine ⟨fun pins s σ H Q I h => ?_⟩
  refine PySem.W.methodCall_KW (pl := pl) (thn (he.run pins s σ H _ I h) fun u s1 ⟨x, H1, I1, rx, a, dx, fs, ex, ea, l, q⟩ => ?_) ht
  subst ex
  cases (show u = Value.ref a from rx)
  refine getmeth_ok I1 ea c hm l ?_
  refine PySem.W.callWith_KW0 (first := [.ref a]) (h₀ := X.base) I.ok.mod.kin hm.kp hall ?_ hpl
  refine thn (hkw.run pos pins s1 σ H1 _ I1 q) fun ws s2 ⟨zs, H2, I2, rz, l2, q2⟩ => ⟨I2.kIn, ?_⟩
  rw [hks]
  exact run_kw (us := [.ref a]) (vs := [.ref a]) F hr hb hx I2 (.cons rfl .nil) rz rfl l2 q2
/-! ### a callee at another depth -/
theorem run_at {A : Around} {Er : Value → Shared → Prop} {Q : VK} {us : List Value} {vs : List V} (F : FnOk X.prog X.w X.K X.mg X.base CX k f fd ps sp) (hr : Room k A) (e0 : Env0 X.prog X.w X.K X.mg X.base A X.stack s H) (hb : Binds X.K fd ps [])
    (hx : ∀ e s', CX X.stack H s E e s' → Er e s') (I : Inv X pins σ H s) (r : Vals vs us) (h : sp vs H Q E) : wpAny (model X.prog X.w) A (call (.ref f) us) (EP X pins σ Q) Er s := by
  have hl : us.length = ps.length := by rw [← r.length]; exact F.len _ _ _ _ h
  have hb' := hb s us I.kIn (by rw [List.append_nil]; exact hl)
  rw [List.append_nil] at hb'
  refine wpAny_call (codeAny_mono (F.run A X.stack s H ⟨us, []⟩ us vs Q E hr e0 hb' r h) fun r s' hq => ?_)
  cases r with
  | error e => exact hx e s' hq
  | ok fl =>
    cases fl with
    | ret u => exact I.after hq
    | next => exact False.elim hq
    | brk => exact False.elim hq
    | cont => exact False.elim hq
/-- str(o), o an instance with its own __str__ -/
def rStrO (C : Addr) (sp : Sp) (E : XK) : List V → Hp → VK → Prop := fun xs H Q => ∃ a dx fs, xs = [.ref a] ∧ H a = some (.ins C dx fs) ∧ sp [.ref a] H (fun v H' => ∃ z, v = .str z ∧ Q (.str z) H') E
theorem call_strO (R : Meth X.K C "__str__" f) (F : FnOk X.prog X.w X.K X.mg X.base CX k f fd ps sp) (hr : Room (k + 2) X.A) (hb : Binds X.K fd ps []) (hx : Passes CX X E) : CallR X (.type "str") (rStrO C sp E) := by
  intro pins s σ H xs us Q I r h
  obtain ⟨a, dx, fs, rfl, ea, q⟩ := h
  obtain ⟨u, rfl, ru⟩ := vals1 r
  cases (show u = Value.ref a from ru)
  obtain ⟨mA, O, _⟩ := ins_get I.hok ea
  obtain ⟨od, J, _⟩ := O.look
  refine kso_call hr.in1.in1.units0 I.kIn J R.at_ R.fn ?_
  refine wpAny_mono (run_at (us := [.ref a]) (vs := [.ref a]) F hr.in1.in1 I.env0.in1.in1 hb (fun e s' => hx pins σ H s e s' I) I (.cons rfl .nil) q) (fun v s' hv => ?_) fun _ _ z => z
  obtain ⟨v', H', I', r', z, rfl, q'⟩ := hv
  obtain ⟨t, rfl⟩ := r'
  exact ⟨.str z, H', I', ⟨t, rfl⟩, q'⟩
/-! ### == where the right one has the method -/
/-- the __eq__ of a built-in type lets an instance be -/
def LetsEq (T id : String) : Prop := ∀ (prog : Program) (w : World) (A : Around) (E : Value → Shared → Prop) (s : Shared) (y : Value) (x C dx : Addr) (Q : Value → Shared → Prop),
  s.TypeIs y T → s.heap.get? x = some (instObj C dx) → Q .notImplemented s → wpAny (model prog w) A (call (.builtin id) [y, .ref x]) Q E s
end
end Ol

namespace Ol
open PySem PySem.W PySem.Calls PyProof.Rows L2
section
variable {prog : Program} {w : World} {A : Around} {E : Value → Shared → Prop} {s : Shared} {x C dx : Addr} {Q : Value → Shared → Prop}
theorem dec_eq_int {i : Int} {t : Tok} (hx : s.heap.get? x = some (instObj C dx)) (h : Q .notImplemented s) : wpAny (model prog w) A (call (.builtin "int.__eq__") [.int i t, .ref x]) Q E s := by
  refine wpAny_call_entry F.slot_int_eq (typeIs_int s i t) F.entry_int_eq ?_ (F.args_int_eq_2 _ _)
  obtain ⟨hp, g, d, tk, os⟩ := s
  unfold Builtin.«int.__eq__»
  wp_walk
  exact ⟨_, rfl, h⟩
theorem dec_eq_str {i : Str} {t : Tok} (hx : s.heap.get? x = some (instObj C dx)) (h : Q .notImplemented s) : wpAny (model prog w) A (call (.builtin "str.__eq__") [.str i t, .ref x]) Q E s := by
  refine wpAny_call_entry F.slot_str_eq (typeIs_str s i t) F.entry_str_eq ?_ (F.args_str_eq_2 _ _)
  obtain ⟨hp, g, d, tk, os⟩ := s
  unfold Builtin.«str.__eq__»
  wp_walk
  exact ⟨_, rfl, h⟩
theorem dec_eq_none (hx : s.heap.get? x = some (instObj C dx)) (h : Q .notImplemented s) : wpAny (model prog w) A (call (.builtin "NoneType.__eq__") [.none, .ref x]) Q E s := by
  refine wpAny_call_entry F.slot_NoneType_eq (show s.TypeIs .none "NoneType" from rfl) F.entry_NoneType_eq ?_ (F.args_NoneType_eq_2 _ _)
  obtain ⟨hp, g, d, tk, os⟩ := s
  unfold Builtin.«NoneType.__eq__»
  wp_walk
  exact ⟨_, rfl, h⟩
theorem dec_eq_list {l : Addr} {o : Obj} {vs : Array Value} {n : Nat} (hl : s.heap.get? l = some o) (hc : o.cls = .type "list") (hd : o.data = .seq vs n) (hx : s.heap.get? x = some (instObj C dx)) (hsub : Looks (model prog w) s.heap (isSubtype (.ref C) (.type "list")) false) (h : Q .notImplemented s) : wpAny (model prog w) A (call (.builtin "list.__eq__") [.ref l, .ref x]) Q E s := by
  refine wpAny_call_entry F.slot_list_eq (show s.TypeIs (.ref l) "list" from ⟨o, hl, hc⟩) F.entry_list_eq ?_ (F.args_list_eq_2 _ _)
  obtain ⟨hp, g, d, tk, os⟩ := s
  obtain ⟨c, dd, da, sl⟩ := o
  cases hc
  cases hd
  unfold Builtin.«list.__eq__»
  wp_walk
  refine hsub.at ?_
  wp_walk
  exact ⟨_, rfl, h⟩
theorem dec_eq_tuple {l : Addr} {o : Obj} {vs : Array Value} {n : Nat} (hl : s.heap.get? l = some o) (hc : o.cls = .type "tuple") (hd : o.data = .seq vs n) (hx : s.heap.get? x = some (instObj C dx)) (hsub : Looks (model prog w) s.heap (isSubtype (.ref C) (.type "tuple")) false) (h : Q .notImplemented s) : wpAny (model prog w) A (call (.builtin "tuple.__eq__") [.ref l, .ref x]) Q E s := by
  refine wpAny_call_entry F.slot_tuple_eq (show s.TypeIs (.ref l) "tuple" from ⟨o, hl, hc⟩) F.entry_tuple_eq ?_ (F.args_tuple_eq_2 _ _)
  obtain ⟨hp, g, d, tk, os⟩ := s
  obtain ⟨c, dd, da, sl⟩ := o
  cases hc
  cases hd
  unfold Builtin.«tuple.__eq__»
  wp_walk
  refine hsub.at ?_
  wp_walk
  exact ⟨_, rfl, h⟩
/-- y == x, y of a built-in type that lets x be, x an instance with the method f -/
theorem eq_right {K : Frag} {f : Addr} {ox : Obj} {od : Option Obj} {y : Value} {T id : String} (hu : A.units < cLine) (X : K.In s.heap) (I : InstAt s.heap x ox C od) (hy : s.TypeIs y T) (hty : Looks (model prog w) s.heap (typeOf y) (.type T)) (ho : oneThing? .Eq y (.ref x) = none) (sl : Slot T (cmpInfo .Eq).2.1 id)
    (dec : ∀ Q' : Value → Shared → Prop, Q' .notImplemented s → wpAny (model prog w) A (call (.builtin id) [y, .ref x]) Q' E s) (hsub : subIn K (.ref C) (.type T) = some false) (at_ : findIn K (.ref C) "__eq__" = some (some (.ref f))) (hf : isFn K (.ref f) = true)
    (h : wpAny (model prog w) A (call (.ref f) [.ref x, y]) (W.CmpBack Q) E s) : wpAny (model prog w) A (richCompare .Eq y (.ref x)) Q E s := by
  have one : wpAny (model prog w) A (tryCompare (.ref x) "__eq__" y) (fun r s' => ∃ v, r = some v ∧ Q v s') E s := by
    unfold tryCompare
    refine wpAny_bind (ifBound_K X I at_ hf (wpAny_mono h (fun v s' hv => ?_) fun _ _ e => e))
    cases v <;> first | exact hv.elim | exact wpAny_pure ⟨_, rfl, hv⟩
  unfold richCompare
  simp only [ho]
  refine wpAny_holding (wpAny_bind (wpAny_cRoomFor hu ?_))
  refine wpAny_bind (hty.here (wpAny_bind (I.type.here ?_)))
  rw [if_pos (show (Value.type T != Value.ref C) = true by simp)]
  refine wpAny_bind ((looks_subIn X hsub).here ?_)
  simp only [Bool.false_eq_true, if_false]
  refine wpAny_bind (wpAny_tryCompare_declines hy sl (dec _ ⟨rfl, ?_⟩))
  simp only [Bool.not_false, if_true]
  refine wpAny_bind (wpAny_mono one (fun r s' z => ?_) fun _ _ e => e)
  obtain ⟨v, rfl, hq⟩ := z
  exact wpAny_pure hq
/-- what x == y and x in [..] ask of an instance beside a built-in value -/
inductive EqBy (K : Frag) (C : Addr) (H : Hp) : V → Prop where
  | int (i : Int) (h : subIn K (.ref C) (.type "int") = some false) : EqBy K C H (.int i)
  | str (z : Str) (h : subIn K (.ref C) (.type "str") = some false) : EqBy K C H (.str z)
  | non (h : subIn K (.ref C) (.type "NoneType") = some false) : EqBy K C H .non
  | lst {a : Addr} {xs : List V} (e : H a = some (.lst xs)) (h : subIn K (.ref C) (.type "list") = some false) : EqBy K C H (.ref a)
  | tup {a : Addr} {xs : List V} (e : H a = some (.tup xs)) (h : subIn K (.ref C) (.type "tuple") = some false) : EqBy K C H (.ref a)
theorem EqBy.same {K : Frag} {H H' : Hp} {v : V} (e : EqBy K C H v) (s : Same H H') : EqBy K C H' v := by
  cases e with
  | int i h => exact .int i h
  | str z h => exact .str z h
  | non h => exact .non h
  | lst e h => exact .lst (s _ _ e) h
  | tup e h => exact .tup (s _ _ e) h
end
section
variable {X : Cx} {CX : CXT} {k : Nat} {C f a dx : Addr} {fs : List (Str × V)} {fd : FuncData} {ps : List Str} {sp : Sp} {E : XK} {pins : List (Addr × Obj)} {σ : L2.St} {H : Hp} {s : Shared}
/-- y == o by the __eq__ of o -/
theorem rich_right {A : Around} {Er : Value → Shared → Prop} {y : V} {u : Value} {Q : VK} (at_ : findIn X.K (.ref C) "__eq__" = some (some (.ref f))) (hfn : isFn X.K (.ref f) = true) (Fn : FnOk X.prog X.w X.K X.mg X.base CX k f fd ps sp) (hr : Room k A) (e0 : Env0 X.prog X.w X.K X.mg X.base A X.stack s H)
    (hb : Binds X.K fd ps []) (hx : ∀ e s', CX X.stack H s E e s' → Er e s') (I : Inv X pins σ H s) (ea : H a = some (.ins C dx fs)) (ry : RelV y u) (ey : EqBy X.K C H y) (h : sp [.ref a, y] H Q E) :
    wpAny (model X.prog X.w) A (richCompare .Eq u (.ref a)) (EP X pins σ Q) Er s := by
  obtain ⟨mA, O, _⟩ := ins_get I.hok ea
  obtain ⟨od, J, _⟩ := O.look
  have run : wpAny (model X.prog X.w) A (call (.ref f) [.ref a, u]) (W.CmpBack (EP X pins σ Q)) Er s :=
    wpAny_mono (run_at (us := [.ref a, u]) (vs := [.ref a, y]) Fn hr e0 hb hx I (.cons rfl (.cons ry .nil)) h) (fun _ _ z => back_ep z) fun _ _ z => z
  cases ey with
  | int i hs =>
    obtain ⟨t, rfl⟩ := ry
    exact eq_right hr.units0 I.kIn J (typeIs_int s i t) (.of_pure rfl) rfl F.slot_int_eq (fun _ q => dec_eq_int O.obj q) hs at_ hfn run
  | str z hs =>
    obtain ⟨t, rfl⟩ := ry
    exact eq_right hr.units0 I.kIn J (typeIs_str s z t) (.of_pure rfl) rfl F.slot_str_eq (fun _ q => dec_eq_str O.obj q) hs at_ hfn run
  | non hs =>
    cases (show u = Value.none from ry)
    exact eq_right hr.units0 I.kIn J (show s.TypeIs .none "NoneType" from rfl) (.of_pure rfl) rfl F.slot_NoneType_eq (fun _ q => dec_eq_none O.obj q) hs at_ hfn run
  | @lst l xs el hs =>
    cases (show u = Value.ref l from ry)
    obtain ⟨_, _, n, _, h1⟩ := (show ObjOk X.prog X.w H s.heap l (.lst xs) from I.hok l _ el)
    exact eq_right hr.units0 I.kIn J (show s.TypeIs (.ref l) "list" from ⟨_, h1, rfl⟩) (looks_ty (x := .ref l) I rfl (.base (.lst el))) rfl F.slot_list_eq (fun _ q => dec_eq_list h1 rfl rfl O.obj (looks_subIn I.kIn hs) q) hs at_ hfn run
  | @tup l xs el hs =>
    cases (show u = Value.ref l from ry)
    obtain ⟨_, _, _, o, h1, h2, n, h3⟩ := (show ObjOk X.prog X.w H s.heap l (.tup xs) from I.hok l _ el)
    exact eq_right hr.units0 I.kIn J (show s.TypeIs (.ref l) "tuple" from ⟨_, h1, h2⟩) (looks_ty (x := .ref l) I rfl (.base (.tup el))) rfl F.slot_tuple_eq (fun _ q => dec_eq_tuple h1 h2 h3 O.obj (looks_subIn I.kIn hs) q) hs at_ hfn run
end
end Ol

namespace Ol
open PySem PySem.W PySem.Calls PyProof.Rows L2
open AutoSeq1 (wpAny_loadPart')
open MeetsSeq MeetsSeq2 MeetsSeq3 SeqRoads2
section
variable {prog : Program} {w : World}
/-- x in a list none of whose items is equal to x, where == runs own code -/
theorem contains_loopJ (l : Addr) (items : Array Value) (n : Nat) (dd : Option Addr) (sl : Array (Option Value)) (x : Value) (A : Around) (R : Result → Shared → Prop) (J : Shared → Prop)
    (hl : ∀ s, J s → s.heap.get? l = some { cls := .type "list", dict := dd, data := .seq items n, slots := sl })
    (he : ∀ y, y ∈ items → ∀ s, J s → ∀ Q : Bool → Shared → Prop, (∀ s', J s' → Q false s') → wpAny (model prog w) A.in1 (eqBool y x) Q (fun e s' => R (.error e) s') s)
    (hR : ∀ s, J s → R (.ok (.ret (.bool false))) s) (k : Nat) :
    ∀ i : Nat, items.size - i = k → ∀ s, J s → wpAny (model prog w) A.in1 (Builtin.«list.__contains__.loop» ⟨[.ref l, x, rawInt i], []⟩) (fun fin s' => match fin with | .done f => R (.ok f) s' | .again c' => c'.quiet = true ∧ codeAny (model prog w) A c' R s') (fun e s' => R (.error e) s') s := by
  induction k with
  | zero =>
    intro i hk s h
    have hl' := hl s h
    have hr := hR s h
    obtain ⟨hp, g, d, tk, os⟩ := s
    wp_walk using wpAny_loadPart' hl'
    have hi : items[((i : Nat) : Int).toNat]? = none := by simp; omega
    rw [hi]
    wp_walk
    exact hr
  | succ k ih =>
    intro i hk s h
    have hl' := hl s h
    have he' : ∀ y, y ∈ items → ∀ Q : Bool → Shared → Prop, (∀ s', J s' → Q false s') → wpAny (model prog w) A.in1 (eqBool y x) Q (fun e s' => R (.error e) s') s := fun y hy => he y hy s h
    obtain ⟨hp, g, d, tk, os⟩ := s
    wp_walk using wpAny_loadPart' hl'
    have hlt : i < items.size := by omega
    have hi : items[((i : Nat) : Int).toNat]? = some items[i] := by simp [hlt]
    rw [hi]
    refine wpAny_bind (he' _ (Array.getElem_mem hlt) _ fun s' h' => ?_)
    obtain ⟨hp, g, d, tk, os⟩ := s'
    have hc : ((i : Int) + 1) = ((i + 1 : Nat) : Int) := by push_cast; rfl
    wp_walk
    rw [hc]
    exact ⟨plainId_quiet plain_contains_loop _, codeAny_builtin entry_contains_loop (by
      rw [Around.under_plainId plain_contains_loop _]
      exact ih (i + 1) (by omega) _ h')⟩
theorem in_listJ {l : Addr} {items : Array Value} {n : Nat} {dd : Option Addr} {sl : Array (Option Value)} {x : Value} {A : Around} {E : Value → Shared → Prop} {Q : Value → Shared → Prop} {s : Shared} (J : Shared → Prop) (h : J s)
    (hl : ∀ s, J s → s.heap.get? l = some { cls := .type "list", dict := dd, data := .seq items n, slots := sl })
    (he : ∀ y, y ∈ items → ∀ s, J s → ∀ Q : Bool → Shared → Prop, (∀ s', J s' → Q false s') → wpAny (model prog w) A.in1 (eqBool y x) Q E s)
    (hq : ∀ s, J s → Q (.bool false) s) : wpAny (model prog w) A (compareOp .In x (.ref l)) Q E s := by
  show wpAny _ _ (do return .bool (← contains (.ref l) x)) Q E s
  refine wpAny_bind (wpAny_contains_slot ⟨_, hl s h, rfl⟩ F.slot_list_contains ?_)
  refine wpAny_call (codeAny_call_builtin F.slot_list_contains.plain F.entry_list_contains (F.slot_list_contains.check _ _ _ _ _ _ _ _ ⟨_, hl s h, rfl⟩ (F.args_list_contains_2 _ _) ?_))
  have hl' := hl s h
  have go := contains_loopJ (prog := prog) (w := w) l items n dd sl x A (wants (fun r s' => wpAny (model prog w) A (truthy r) (fun a s' => wpAny (model prog w) A (pure (Value.bool a)) Q E s') E s') E) J hl he (fun s h => wpAny_truthy_bool (wpAny_pure (hq s h))) _ 0 rfl s h
  obtain ⟨hp, g, d, tk, os⟩ := s
  wp_walk using wpAny_loadPart' hl'
  exact ⟨plainId_quiet plain_contains_loop _, codeAny_builtin entry_contains_loop (by
    rw [Around.under_plainId plain_contains_loop _]
    exact go)⟩
end
section
variable {X : Cx} {CX : CXT} {k : Nat} {C f a dx : Addr} {fs : List (Str × V)} {fd : FuncData} {ps : List Str} {sp : Sp} {E : XK} {pins : List (Addr × Obj)} {σ : L2.St} {H : Hp} {s : Shared}
theorem vals_mem {xs : List V} {us : List Value} (r : Vals xs us) : ∀ y ∈ us, ∃ z ∈ xs, RelV z y := by
  induction r with
  | nil => intro y hy; cases hy
  | cons r t ih =>
    intro y hy
    rcases List.mem_cons.mp hy with rfl | hy
    · exact ⟨_, List.mem_cons_self, r⟩
    · obtain ⟨z, h1, h2⟩ := ih y hy
      exact ⟨z, List.mem_cons_of_mem _ h1, h2⟩
/-- x in a list of built-in values, x an instance; its __eq__ says False of each and leaves the heap -/
def rInNo (K : Frag) (C : Addr) (sp : Sp) (E : XK) : R2 := fun x y H Q => ∃ a l xs, x = .ref a ∧ y = .ref l ∧ H l = some (.lst xs) ∧
  (∀ od, ∀ z ∈ xs, EqBy K C (upd H l (.frz od (.lst xs))) z ∧ z ≠ .ref a ∧ (∃ dx fs, upd H l (.frz od (.lst xs)) a = some (.ins C dx fs)) ∧ ∀ Q' : VK, Q' (.bl false) (upd H l (.frz od (.lst xs))) → sp [.ref a, z] (upd H l (.frz od (.lst xs))) Q' E) ∧ Q (.bl false) H
theorem op_inNo (at_ : findIn X.K (.ref C) "__eq__" = some (some (.ref f))) (hfn : isFn X.K (.ref f) = true) (Fn : FnOk X.prog X.w X.K X.mg X.base CX k f fd ps sp) (hr : Room (k + 1) X.A)
    (hb : Binds X.K fd ps []) (hx : Passes CX X E) : OpR X (compareOp .In) (rInNo X.K C sp E) := by
  intro pins s σ H x y v u Q I rx ry h
  obtain ⟨a, l, xs, rfl, rfl, el, hz, q⟩ := h
  cases (show v = Value.ref a from rx)
  cases (show u = Value.ref l from ry)
  have nf := I.nofrz el (by trivial)
  obtain ⟨od, I1⟩ := I.lock el (by trivial)
  have hz := hz od
  have e1 : upd H l (.frz od (.lst xs)) l = some (.frz od (.lst xs)) := upd_same
  have back : ∀ s', Inv X pins σ (upd H l (.frz od (.lst xs))) s' → Inv X pins σ H s' := fun s' I' => by
    have z := I'.unlock e1 nf
    have e : upd (upd H l (.frz od (.lst xs))) l (.lst xs) = H := by
      funext b
      by_cases hb : b = l
      · subst hb; rw [upd_same, el]
      · rw [upd_ne hb, upd_ne hb]
    rwa [e] at z
  obtain ⟨ho, _, us, n, r, h1⟩ := (show ObjOk X.prog X.w _ s.heap l (.frz od (.lst xs)) from I1.hok l _ e1)
  have hod := Option.some.inj (ho.symm.trans h1)
  refine in_listJ (items := us.toArray) (n := n) (dd := none) (sl := #[]) (fun s' => Inv X pins σ (upd H l (.frz od (.lst xs))) s') I1 (fun s' J => ?_) (fun y hy s' J Q' hq => ?_) fun s' J => ⟨.bl false, H, back s' J, rfl, q⟩
  · rw [← hod]
    exact (show ObjOk X.prog X.w _ s'.heap l (.frz od (.lst xs)) from J.hok l _ e1).1
  · obtain ⟨z, hz1, ry⟩ := vals_mem r y (by simpa using hy)
    obtain ⟨by1, ne, ⟨dx, fs, ea⟩, hsp⟩ := hz z hz1
    have hne : (y == Value.ref a) = false := Bool.eq_false_iff.mpr fun e => by
      cases beq_iff_eq.mp e
      cases z with
      | ref b => cases (show Value.ref a = Value.ref b from ry); exact ne rfl
      | _ => first | (obtain ⟨t, e⟩ := ry; cases e) | cases ry
    unfold eqBool
    refine wpAny_holding ?_
    rw [hne]
    simp only [Bool.false_eq_true, if_false]
    have go := rich_right (Er := X.xe) at_ hfn Fn hr.in1 J.env0.in1 hb (fun e s'' => hx pins σ _ s' e s'' J) J ea ry by1 (Q := fun v H' => v = .bl false ∧ H' = upd H l (.frz od (.lst xs))) (hsp _ ⟨rfl, rfl⟩)
    have fin : wpAny (model X.prog X.w) X.A.in1 (richCompare .Eq y (.ref a) >>= truthOfDropped) Q' X.xe s' := by
      refine wpAny_bind (wpAny_mono go (fun v s'' hv => ?_) fun _ _ z => z)
      obtain ⟨v', H', I', r', rfl, rfl⟩ := hv
      cases (show v = Value.bool false from r')
      exact wpAny_truthy_bool (hq _ I')
    cases y <;> exact fin
end
end Ol

namespace Ol
open PySem PySem.Spec PyProof.Rows L2
def spDayEq2 (K : PySem.W.Frag) (C : Addr) : Sp := fun vs H Q _ => ∃ (a : Addr) (y : V) (L : Int), vs = [.ref a, y] ∧ DayAt C H a L ∧ ((∃ (b : Addr) (M : Int), y = .ref b ∧ DayAt C H b M ∧ Q (.bl (decide (L = M))) H) ∨ (∃ t, TyX K H y t ∧ PySem.W.kitOne K t (.ref C) = some false ∧ Q (.bl false) H))
def spDayIn (K : PySem.W.Frag) (C : Addr) : Sp := fun vs H Q _ => ∃ (a : Addr) (x : V) (L : Int), vs = [.ref a, x] ∧ DayAt C H a L ∧ ((∃ i, x = .int i ∧ Q (.bl (decide (0 ≤ i ∧ i ≤ L - 1))) H) ∨ (NoInt K H x ∧ Q (.bl false) H))
def spDayStr (C : Addr) : Sp := fun vs H Q _ => ∃ (a : Addr) (L : Int), vs = [.ref a] ∧ DayAt C H a L ∧ Q (.str (toString L)) H
section
variable {K : PySem.W.Frag} {C a b : Addr} {H : Hp} {Q : VK} {E : XK} {L M m n k : Int} {R : Prop} {x : V}
theorem r_deq2 (I : IsC K C) (d : DayAt C H a L) (e : DayAt C H b M) (q : Q (.bl (decide (L = M))) H) : rCmpO K C (spDayEq2 K C) E (.ref a) (.ref b) H Q := by
  obtain ⟨_, dx, h⟩ := id d
  obtain ⟨_, dy, h2⟩ := id e
  exact ⟨a, dx, _, _, rfl, h, I.ty h2, notFirst_self, a, _, L, rfl, d, .inl ⟨b, M, rfl, e, q⟩⟩
theorem r_dne2 (I : IsC K C) (d : DayAt C H a L) (e : DayAt C H b M) (q : Q (.bl (!decide (L = M))) H) : rNeO K C (spDayEq2 K C) E (.ref a) (.ref b) H Q := by
  obtain ⟨_, dx, h⟩ := id d
  obtain ⟨_, dy, h2⟩ := id e
  exact ⟨a, dx, _, _, rfl, h, I.ty h2, notFirst_self, a, _, L, rfl, d, .inl ⟨b, M, rfl, e, _, rfl, q⟩⟩
theorem r_din {g : Bool → Bool} {i : Int} (d : DayAt C H a L) (q : Q (.bl (g (decide (0 ≤ i ∧ i ≤ L - 1)))) H) : rInO C (spDayIn K C) E g (.int i) (.ref a) H Q := by
  obtain ⟨_, dx, h⟩ := id d
  exact ⟨a, dx, _, rfl, h, a, _, L, rfl, d, .inl ⟨i, rfl, _, rfl, q⟩⟩
theorem r_dinN {g : Bool → Bool} (d : DayAt C H a L) (n : NoInt K H x) (q : Q (.bl (g false)) H) : rInO C (spDayIn K C) E g x (.ref a) H Q := by
  obtain ⟨_, dx, h⟩ := id d
  exact ⟨a, dx, _, rfl, h, a, _, L, rfl, d, .inr ⟨n, _, rfl, q⟩⟩
theorem r_dstr (d : DayAt C H a L) (q : Q (.str (toString L)) H) : rStrO C (spDayStr C) E [.ref a] H Q := by
  obtain ⟨_, dx, h⟩ := id d
  exact ⟨a, dx, _, rfl, h, a, L, rfl, d, _, rfl, q⟩
theorem r_cat {l b : Addr} {xs zs : List V} (h1 : H l = some (.lst xs)) (h2 : H b = some (.lst zs)) (hz : Nat.ble (xs.length + zs.length) 1000 = true) (q : ∀ p, H p = none → Q (.ref p) (upd H p (.lst (xs ++ zs)))) : rCat (.ref l) (.ref b) H Q :=
  ⟨l, b, xs, zs, rfl, rfl, h1, h2, Nat.le_trans (Nat.le_of_ble_eq_true hz) (by decide), q⟩
theorem Fun.okN {P : Program} {w : World} {mg : Str → Option Value} {base : Heap} {x qual : Str} {st : Stmt} {f : Addr} {fd : FuncData} {N ps : List Str} {k : Nat} {sp : Sp} (F : Fun K x qual st f fd) (S : FnScope N ps (defScope st)) (len : ∀ vs H Q E, sp vs H Q E → vs.length = ps.length)
    (hbody : ∀ (cdv : Value) (A : Around) (outer : List Env) (s : Shared) (H : Hp) (vs : List V) (Q : VK) (E : XK), (A.deeper (envOfC qual (defScope st) s.heap.objs.size f cdv)).guards = some [] → Room k (A.deeper (envOfC qual (defScope st) s.heap.objs.size f cdv)) → sp vs H Q E →
      ∃ t, PSs (cxOf CX0 P w K mg base N qual (defScope st) f cdv A outer s H E).nox (defBody st) t ∧ t { nx := fun _ H' => Q .non H', rt := Q } (L2.start N vs) H) : FnG P w K mg base CX0 (k + 1) f fd ps sp :=
  Fun.okG F S len fun cdv A outer s H vs Q E hg hr hsp => let ⟨t, h, q⟩ := hbody cdv A outer s H vs Q E hg hr hsp; ⟨t, h.nox, q⟩
/-! ### values that are no ints -/
theorem NoInt.non : NoInt K H .non := ⟨_, _, .base .non, kit_ty (r := false) (by decide +kernel), fun z => by cases z⟩
theorem NoInt.bl (b : Bool) : NoInt K H (.bl b) := ⟨_, _, .base (.bl b), kit_bool_int, fun _ => kit_bool_bool⟩
theorem NoInt.str (z : Str) : NoInt K H (.str z) := ⟨_, _, .base (.str z), kit_ty (r := false) (by decide +kernel), fun z => by cases z⟩
theorem NoInt.lst {xs : List V} (h : H a = some (.lst xs)) : NoInt K H (.ref a) := ⟨_, _, .base (.lst h), kit_ty (r := false) (by decide +kernel), fun z => by cases z⟩
theorem NoInt.tup {xs : List V} (h : H a = some (.tup xs)) : NoInt K H (.ref a) := ⟨_, _, .base (.tup h), kit_ty (r := false) (by decide +kernel), fun z => by cases z⟩
theorem NoInt.dK {kvs : List (Key × V)} (h : H a = some (.dK kvs)) : NoInt K H (.ref a) := ⟨_, _, .base (.dK h), kit_ty (r := false) (by decide +kernel), fun z => by cases z⟩
theorem NoInt.own {dx : Addr} {fs : List (Str × V)} (I : IsC K C) (hk : PySem.W.kitOne K (.ref C) (.type "int") = some false) (h : H a = some (.ins C dx fs)) : NoInt K H (.ref a) := ⟨_, _, I.ty h, hk, fun z => by cases z⟩
end
end Ol

namespace Ol
open PySem PySem.Spec PyProof.Rows L2
section
variable {K : PySem.W.Frag} {σ : L2.St} {H : Hp} {Q : VK} {ta tb tc te : TE} {t u : TT} {ts us : TS} {tr tk : TA} {D : Ends} {v x y : V} {i j : Int} {C : Addr} {E : XK} {sp : Sp} {n m : Nat} {gV : List V → List V → List V}
theorem t_methK {f : Str} (h : ta σ H fun x H1 => ∃ a dx fs, x = .ref a ∧ H1 a = some (.ins C dx fs) ∧ fs.lookup f = none ∧ tk σ H1 fun zs H2 => zs.length = n ∧ sp (gV [x] zs) H2 Q E) : tMethK C f n sp gV E ta tk σ H Q := h
theorem t_makeK (h : tr σ H fun vs H1 => tk σ H1 fun zs H2 => vs.length = n ∧ zs.length = m ∧ ∀ x dx, H2 x = none → H2 dx = none → dx ≠ x → sp (gV (.ref x :: vs) zs) (upd (upd H2 dx (.own x)) x (.ins C dx [])) (fun v H3 => v = .non ∧ Q (.ref x) H3) E) : tMakeK C n m sp gV E tr tk σ H Q := h
theorem t_cval {f : Str} (h : ta σ H fun x H1 => ∃ C mc v u, x = .ref C ∧ ClX.CRead K C mc ∧ ClX.CVal K C mc f v u ∧ Q v H1) : ClX.tCVal K ta f σ H Q := h
theorem r_eqS1 {a b : Str} (h : a = b) (q : Q (.bl true) H) : rEq (.str a) (.str b) H Q := r_eqS (by rw [decide_eq_true h]; exact q)
theorem r_neS1 {a b : Str} (h : a = b) (q : Q (.bl false) H) : rNe (.str a) (.str b) H Q := r_neS (by rw [decide_eq_true h]; exact q)
theorem r_eqSame {d : PyData} (h1 : Dp K H x d) (h2 : Dp K H y d) (hs : SeqAt.shaped d = true) (q : Q (.bl true) H) : rEqD K x y H Q :=
  ⟨d, d, h1, h2, hs, hs, by rw [SeqAt.eqv_refl d (SeqAt.canLay_of_shaped hs)]; exact q⟩
theorem r_neSame {d : PyData} (h1 : Dp K H x d) (h2 : Dp K H y d) (hs : SeqAt.shaped d = true) (q : Q (.bl false) H) : rNeD K x y H Q :=
  ⟨d, d, h1, h2, hs, hs, by rw [SeqAt.eqv_refl d (SeqAt.canLay_of_shaped hs)]; exact q⟩
theorem eqv_ints : ∀ ns ms : List Int, PyData.eqvAll (ns.map PyData.int) (ms.map PyData.int) = decide (ns = ms)
  | [], [] => by simp [PyData.eqvAll]
  | [], _ :: _ => by simp [PyData.eqvAll]
  | _ :: _, [] => by simp [PyData.eqvAll]
  | a :: r, b :: s => by
    rw [List.map_cons, List.map_cons, PyData.eqvAll, PyData.eqv, eqv_ints r s]
    by_cases h1 : a = b <;> by_cases h2 : r = s <;> simp [h1, h2]
theorem r_eqInts {p q : Addr} {ns ms : List Int} (h1 : SqL K H p (ns.map V.int)) (h2 : SqL K H q (ms.map V.int)) (h : Q (.bl (decide (ns = ms))) H) : rEqD K (.ref p) (.ref q) H Q :=
  ⟨_, _, .lst h1 (dpAll_ints ns), .lst h2 (dpAll_ints ms), PySem.W.ke_shaped_ints ns, PySem.W.ke_shaped_ints ms, by rw [PyData.eqv, eqv_ints]; exact h⟩
theorem r_neInts {p q : Addr} {ns ms : List Int} (h1 : SqL K H p (ns.map V.int)) (h2 : SqL K H q (ms.map V.int)) (h : Q (.bl (!decide (ns = ms))) H) : rNeD K (.ref p) (.ref q) H Q :=
  ⟨_, _, .lst h1 (dpAll_ints ns), .lst h2 (dpAll_ints ms), PySem.W.ke_shaped_ints ns, PySem.W.ke_shaped_ints ms, by rw [PyData.eqv, eqv_ints]; exact h⟩
theorem r_reprI (h : i.natAbs < 10 ^ 75) (q : Q (.str (PyData.int i).shown) H) : rRepr K [.int i] H Q := ⟨_, _, 76, rfl, .int i, (Sh.int h).le (by decide) (by decide), by decide, q⟩
theorem r_reprL2 {z : Addr} (hz : SqL K H z [.int i, .int j]) (h1 : i.natAbs < 10 ^ 75) (h2 : j.natAbs < 10 ^ 75) (q : Q (.str (PyData.list [.int i, .int j]).shown) H) : rRepr K [.ref z] H Q :=
  ⟨_, _, _, rfl, .lst hz (.cons (.int i) (.cons (.int j) .nil)), (Sh.list (n := 76) (k := 0) fun d hd => by
    rcases List.mem_cons.mp hd with rfl | hd
    · exact Sh.int h1
    · cases List.mem_singleton.mp hd; exact Sh.int h2).le (m := 200) (show 2 * 76 + 2 * 2 + 3 ≤ 200 by decide) (by decide), by decide, q⟩
theorem if_mk {b : Bool} (R : V → Hp → Prop) (h1 : b = true → ∀ Q : VK, (∀ v H', R v H' → Q v H') → ta σ H Q) (h2 : b = false → ∀ Q : VK, (∀ v H', R v H' → Q v H') → tb σ H Q) (h : ∀ v H', R v H' → Q v H') : if b = true then ta σ H Q else tb σ H Q := by
  cases b with
  | true => exact h1 rfl Q h
  | false => exact h2 rfl Q h
theorem strOk_of (z : String) : PyData.strOk (Str.ofString z) = true := by
  rw [Str.ofString_eq_toList]
  unfold PyData.strOk
  rw [Array.all_eq_true']
  intro a ha
  simp only [List.mem_toArray, List.mem_map] at ha
  obtain ⟨c, _, rfl⟩ := ha
  have := c.valid
  refine decide_eq_true ?_
  rcases c.valid with h | h
  · have h' : c.toNat < 0xd800 := h
    omega
  · have h' : c.toNat < 0x110000 := h.2
    omega
/-! ### comprehensions -/
def LcW (J : L2.It) (g : TG) (tt : TT) (te : TE) (vs : List Nat) (σ : L2.St) (H1 : Hp) (D : Addr) (Q : VK) : Prop := ∃ W : Nat → Nat → Hp → Prop, (∃ m, W 0 m (upd H1 D (.lst []))) ∧ ∀ i m H, W i m H →
  (J.stop i H ∧ Q (.ref D) H) ∨ (J.go i H ∧ ∃ Nx : Hp → Prop, (∀ H', Nx H' → ∃ m', m' < m ∧ W (i + 1) m' H') ∧ ∀ x H', J.yld i H x H' → g x (wipe σ vs) H' fun σ2 H2 => wipe σ2 vs = wipe σ vs ∧ tt σ2 H2 fun b H3 =>
    if b = true then te σ2 H3 fun y H4 => ∃ acc, H4 D = some (.lst acc) ∧ acc.length < sizeLine ∧ Nx (upd H4 D (.lst (acc ++ [y]))) else Nx H3)
section
variable {g : TG} {vs : List Nat}
theorem t_lcT (h : ta σ H fun x H1 => ∃ a, x = .ref a ∧ (∃ xs, SqT K H1 a xs) ∧ ∀ D, H1 D = none → LcW (Itt K a) g t te vs σ H1 D Q) : tLc (iTup K ta) g t te vs σ H Q := h
theorem t_lcL (h : ta σ H fun x H1 => ∃ a, x = .ref a ∧ (∃ xs, SqL K H1 a xs) ∧ ∀ D, H1 D = none → LcW (Itl K a) g t te vs σ H1 D Q) : tLc (iList K ta) g t te vs σ H Q := h
theorem t_lcR (h : tr σ H fun ws H1 => ∃ j : Int, ws = [.int j] ∧ -(2 ^ 62) ≤ j ∧ j < 2 ^ 62 ∧ ∀ D, H1 D = none → LcW (Itr 0 j.toNat) g t te vs σ H1 D Q) : tLc (iRng1 tr) g t te vs σ H Q := h
/-- no item is kept, the tests leave the heap -/
theorem lcT_no {a : Addr} {xs : List V} {D : Addr} (hs : SqT K (upd H D (.lst [])) a xs) (ht : ∀ x ∈ xs, ∀ R : L2.St → Bool → Hp → Prop, (∀ σ2, R σ2 false (upd H D (.lst []))) → g x (wipe σ vs) (upd H D (.lst [])) fun σ2 H2 => wipe σ2 vs = wipe σ vs ∧ t σ2 H2 (R σ2)) (q : Q (.ref D) (upd H D (.lst []))) :
    LcW (Itt K a) g t te vs σ H D Q := by
  refine lc_tup (Qd := fun H' => Q (.ref D) H') (xs := xs) (fun _ H' => H' = upd H D (.lst [])) rfl (fun i H' _ e => e ▸ hs) (fun i x H' hx e => ?_) fun H' e => e ▸ q
  subst e
  refine ht x (List.mem_of_getElem? hx) (fun σ2 b H3 => if b = true then te σ2 H3 fun y H4 => ∃ acc, H4 D = some (.lst acc) ∧ acc.length < sizeLine ∧ upd H4 D (.lst (acc ++ [y])) = upd H D (.lst []) else H3 = upd H D (.lst [])) fun σ2 => ?_
  exact iteF rfl
theorem lcL_no {a : Addr} {xs : List V} {D : Addr} (hs : SqL K (upd H D (.lst [])) a xs) (ht : ∀ x ∈ xs, ∀ R : L2.St → Bool → Hp → Prop, (∀ σ2, R σ2 false (upd H D (.lst []))) → g x (wipe σ vs) (upd H D (.lst [])) fun σ2 H2 => wipe σ2 vs = wipe σ vs ∧ t σ2 H2 (R σ2)) (q : Q (.ref D) (upd H D (.lst []))) :
    LcW (Itl K a) g t te vs σ H D Q := by
  refine lc_list (Qd := fun H' => Q (.ref D) H') (xs := xs) (fun _ H' => H' = upd H D (.lst [])) rfl (fun i H' _ e => e ▸ hs) (fun i x H' hx e => ?_) fun H' e => e ▸ q
  subst e
  refine ht x (List.mem_of_getElem? hx) (fun σ2 b H3 => if b = true then te σ2 H3 fun y H4 => ∃ acc, H4 D = some (.lst acc) ∧ acc.length < sizeLine ∧ upd H4 D (.lst (acc ++ [y])) = upd H D (.lst []) else H3 = upd H D (.lst [])) fun σ2 => ?_
  exact iteF rfl
end
end
end Ol

namespace Ol
open PySem PySem.W PySem.Spec PySem.Calls PyProof.Rows L2
/-! ### a method that closes over __class__ -/
structure FunS (P : Program) (K : Frag) (x qual : Str) (st : Stmt) (f : Addr) (fd : FuncData) (D : Addr) : Prop where
  ex : ∃ (oc : Value) (od : Option Addr) (kV doc pm : Value) (an : Option Addr) (cda : Addr) (ct : Value) (osl : Array (Option Value)) (cc : Addr),
    fd = ksFn x qual (defArgs st) (defBody st) (defScope st) .none kV doc pm an (.ref cda) ct cc ∧ K.lookup f = some ⟨oc, od, .func fd, osl⟩ ∧ codeIn K (.ref cda) qual = true ∧
    (∃ (cl : Value) (cld : Option Addr) (csl : Array (Option Value)), K.lookup cc = some ⟨cl, cld, .cell (some (.ref D)), csl⟩) ∧
    ∃ (ccl : Value) (cdd : Option Addr) (ccs : Array (Option Value)) (vs : Array Value) (file : Str) (tf : Tok), K.lookup cda = some ⟨ccl, cdd, .fields vs, ccs⟩ ∧ vs[2]? = some (.str file tf) ∧ ((P.main.file : Str) == file) = true
  top : (P.main.scope.names.lookup ("super" : Str)).isSome = false
  cls : ∃ cd, clsIn K D = some cd
  kp : keepIn K (.ref f) = true
structure SupScope (N ps : List Str) (sc : Scope) : Prop where
  kind : sc.kind = .function
  co : sc.isCoroutine = false
  gen : sc.isGenerator = false
  nd : N.Nodup
  pre : N.take ps.length = ps
  par : ∀ x ∈ ps, sc.names.lookup x = some .local
  nocell : ∀ y ∈ sc.names, y.2 ≠ .cell
  free : ∀ y ∈ sc.names, y.2 = .free → y.1 = "__class__"
  sup : sc.names.lookup ("super" : Str) = some .globalImplicit
  cl : sc.names.lookup ("__class__" : Str) = some .free
/-- the context of such a method's body -/
def cxS (CX : CXT) (P : Program) (w : World) (K : Frag) (mg : Str → Option Value) (base : Heap) (N : List Str) (qual : Str) (scope : Scope) (f : Addr) (cd : Value) (cc : Addr) (A : Around) (outer : List Env) (s : Shared) (H : Hp) (E : XK) : Cx where
  prog := P
  w := w
  K := K
  mg := mg
  base := base
  A := A.deeper (ksEnv qual scope s.heap.objs.size f cd cc)
  N := N
  s_0 := s
  H_0 := H
  env := ksEnv qual scope s.heap.objs.size f cd cc
  outer := outer
  stack := ksEnv qual scope s.heap.objs.size f cd cc :: outer
  ex := []
  calm := true
  fn := fun _ => false
  pn := []
  xe := fun e s' => wpAny (model P w) (A.deeper (ksEnv qual scope s.heap.objs.size f cd cc)) (leaving (ksEnv qual scope s.heap.objs.size f cd cc) e) (fun _ s'' => CX outer H s E e s'') (fun e' s'' => CX outer H s E e' s'') s'
theorem zip_rev {ps : List Str} {us : List Value} (nd : ps.Nodup) {i : Nat} {y : Str} {u : Value} (hp : ps[i]? = some y) (hu : us[i]? = some u) : (ps.zip us).reverse.lookup y = some u := by
  have hm : (y, u) ∈ (ps.zip us).reverse := by
    rw [List.mem_reverse]
    refine List.mem_of_getElem? (i := i) ?_
    rw [List.getElem?_zip_eq_some]
    exact ⟨hp, hu⟩
  have un : ∀ v, (y, v) ∈ (ps.zip us).reverse → v = u := fun v hv => by
    rw [List.mem_reverse] at hv
    obtain ⟨j, hj⟩ := List.getElem?_of_mem hv
    rw [List.getElem?_zip_eq_some] at hj
    have e : i = j := by
      have hi : i < ps.length := (List.getElem?_eq_some_iff.mp hp).1
      exact (List.getElem?_inj hi nd).mp (hp.trans hj.1.symm)
    subst e
    exact Option.some.inj (hj.2.symm.trans hu)
  cases h : (ps.zip us).reverse.lookup y with
  | none => exact absurd (List.lookup_eq_none_iff.mp h _ hm) (by simp)
  | some v => rw [un v (PySem.mem_of_lookup h)]
theorem inv_startS {CX : CXT} {P : Program} {w : World} {K : Frag} {mg : Str → Option Value} {base : Heap} {N ps : List Str} {qual : Str} {scope : Scope} {f cc D : Addr} {cd : Value} {A : Around} {outer : List Env} {s : Shared} {H : Hp} {E : XK} {us : List Value} {vs : List V} {h1 : Heap} {tk : Nat}
    {cl : Value} {cld : Option Addr} {csl : Array (Option Value)} (S : SupScope N ps scope) (hd : A.handled = none) (e0 : Env0 P w K mg base A outer s H) (hl : vs.length = ps.length) (r : Vals vs us) (hcc : K.lookup cc = some ⟨cl, cld, .cell (some (.ref D)), csl⟩)
    (hns : h1.Ns s.heap.objs.size fun x => (ps.zip us).reverse.lookup x) (hk : ∀ b o, s.heap.get? b = some o → h1.get? b = some o) :
    Inv (cxS CX P w K mg base N qual scope f cd cc A outer s H E) [] (L2.start N vs) H { s with heap := h1, toks := tk } := by
  have hpl : ps.length ≤ N.length := by have := congrArg List.length S.pre; rw [List.length_take] at this; omega
  have noA : ∀ b : Addr, b ∉ (cxS CX P w K mg base N qual scope f cd cc A outer s H E).ex := fun b z => absurd (show b ∈ ([] : List Addr) from z) (by simp)
  have one : ∀ {y : Str} {c : Addr}, ([("__class__", cc)] : List (Str × Addr)).lookup y = some c → y = "__class__" ∧ c = cc := fun {y c} e => by
    have m := PySem.mem_of_lookup e
    simp only [List.mem_singleton, Prod.mk.injEq] at m
    exact m
  have hb := e0.bs cc _ (e0.mod.kin cc _ hcc)
  refine ⟨⟨e0.mod, S.kind, rfl, rfl, Nat.le_refl _, fun y z c h1 h2 => ?_, fun y hy => ?_, fun y c z _ => ?_, fun _ => hd, Around.frames_deeper e0.frames, .inr ⟨rfl, rfl⟩, fun b z => absurd z (noA b), e0.bs, e0.bsz, fun b _ _ => noA b, fun b z => absurd z (noA b), e0.funs, e0.frf⟩,
    rfl, e0.bare, Un.kept hk, ⟨_, hns, fun i y v h1 h2 h3 => ?_⟩, fun y c h => ?_, e0.hok.fresh (Nat.le_refl _), fun y c h => ?_, fun p hp => absurd (show p ∈ ([] : List (Addr × Obj)) from hp) (by simp), e0.hok.kept hk, ?_⟩
  · exact (one h1).1.trans (one h2).1.symm
  · have hy : scope.names.lookup y = some .cell ∨ scope.names.lookup y = some .free := hy
    rcases hy with hy | hy
    · exact absurd rfl (S.nocell _ (PySem.mem_of_lookup hy))
    · rw [show y = "__class__" from S.free _ (PySem.mem_of_lookup hy) rfl]
      exact ⟨cc, rfl⟩
  · cases (show false = true from z)
  · have hi : i < vs.length := by
      unfold L2.start at h2
      by_cases hi : i < vs.length
      · exact hi
      · rw [List.getElem?_append_right (by simpa using hi)] at h2
        rw [List.getElem?_replicate] at h2
        split at h2 <;> cases h2
    have ha : vs[i]? = some v := by
      unfold L2.start at h2
      rw [List.getElem?_append_left (by simpa using hi), List.getElem?_map] at h2
      cases e : vs[i]? with
      | none => rw [e] at h2; cases h2
      | some a => rw [e] at h2; cases h2; rfl
    obtain ⟨u, hu, rv⟩ := r.get ha
    have hp : ps[i]? = some y := by
      rw [← S.pre, List.getElem?_take_of_lt (by omega)]; exact h1
    have ndP : ps.Nodup := by rw [← S.pre]; exact S.nd.sublist (List.take_sublist _ _)
    exact ⟨u, rv, .inl ⟨S.par y (List.mem_of_getElem? hp), zip_rev ndP hp hu⟩⟩
  · rw [(one h).2]
    exact ⟨_, _, hk _ _ hb.1, rfl⟩
  · rw [(one h).2]
    exact hb.2
  · unfold L2.start
    show _ = N.length
    rw [List.length_append, List.length_map, List.length_replicate]
    omega
/-! ### super() -/
section
variable {CX : CXT} {P : Program} {w : World} {K : Frag} {mg : Str → Option Value} {base : Heap} {N ps : List Str} {qual : Str} {scope : Scope} {f cc D cda C a : Addr} {A : Around} {outer : List Env} {s0 s : Shared} {H0 H : Hp} {E0 : XK} {σ : L2.St} {E : Value → Shared → Prop} {fd : FuncData}
  {oc cl ccl : Value} {od cld cdd : Option Addr} {osl csl ccs : Array (Option Value)} {vs : Array Value} {file : Str} {tf : Tok} {cdD : ClassData} {ar : Arg} {ox : Obj} {odx : Option Obj} {body : List Stmt} {p0 p1 : Pos} {attr : Str} {whole : Sem Value}
/-- super() is made -/
theorem sup_node {Q : Value → Shared → Prop} (I : Inv (cxS CX P w K mg base N qual scope f (.ref cda) cc A outer s0 H0 E0) [] σ H s) (S : SupScope N ps scope) (hf : K.lookup f = some ⟨oc, od, .func fd, osl⟩) (hp : (fd.params.posonlyargs ++ fd.params.args).head? = some ar)
    (hcode : K.lookup cda = some ⟨ccl, cdd, .fields vs, ccs⟩) (hvs : vs[2]? = some (.str file tf)) (hfile : ((P.main.file : Str) == file) = true) (hcell : K.lookup cc = some ⟨cl, cld, .cell (some (.ref D)), csl⟩) (hD : clsIn K D = some cdD) (hsub : mroIn K C (.ref D) = some true) (hms : mg "super" = none)
    (hat : (attr == ("__class__" : Str)) = false) (htop : (P.main.scope.names.lookup ("super" : Str)).isSome = false) (hn : N[0]? = some ar.arg) (hka : scope.names.lookup ar.arg = some .local) (hσ : σ[0]? = some (some (.ref a))) (J : InstAt s.heap a ox C odx)
    (h : ∀ h', h'.get? s.heap.objs.size = some (ks_superObj D a C) → (∀ y o, s.heap.get? y = some o → h'.get? y = some o) → Q (.ref s.heap.objs.size) { s with heap := h' }) :
    _root_.PySem.wpAt (model P w) (A.deeper (ksEnv qual scope s0.heap.objs.size f (.ref cda) cc)) (.func body (ksEnv qual scope s0.heap.objs.size f (.ref cda) cc)) (attributeBase (.Call (.Name "super" p0) [] [] p1) attr (ksEnv qual scope s0.heap.objs.size f (.ref cda) cc) whole) Q E s := by
  have X : K.In s.heap := I.kIn
  obtain ⟨mb, hb1, hb2⟩ := I.mod.blt
  obtain ⟨m, hm, hl⟩ := I.loc
  obtain ⟨u, ru, lu⟩ := hl 0 _ _ hn hσ (.inl hka)
  cases (show u = Value.ref a from ru)
  have hv : m ar.arg = some (.ref a) := by
    rcases lu with ⟨_, z⟩ | ⟨z | z, _⟩
    · exact z
    · rw [show scope.names.lookup ar.arg = _ from z] at hka; cases hka
    · rw [show scope.names.lookup ar.arg = _ from z] at hka; cases hka
  have gk := I.mod.glob.keeps I.bk
  have bk := hb1.keeps I.bk
  have hm' : s.heap.Ns s0.heap.objs.size m := hm
  obtain ⟨hh, g, d, t, os⟩ := s
  obtain ⟨oD, hD1, hD2⟩ : ∃ oD, hh.get? D = some oD ∧ oD.data = .cls cdD := by
    unfold clsIn at hD
    split at hD
    · rename_i c d cd' sl ho
      cases hD
      exact ⟨_, X _ _ ho, rfl⟩
    · cases hD
  refine ks_wpAt_super_base (env := ksEnv qual scope s0.heap.objs.size f (.ref cda) cc) S.sup S.cl hat rfl (X _ _ hf) rfl hp rfl (X _ _ hcode) rfl hvs hfile htop ?_
  refine ks_loadName_global S.kind S.sup (loadGlobal_builtin (env := ksEnv qual scope s0.heap.objs.size f (.ref cda) cc) gk hms bk ((hb2 _ (by decide +kernel)).trans (by decide +kernel)) ⟨rfl, ?_⟩)
  refine wpAny_loadName_free S.kind S.cl rfl ⟨_, X _ _ hcell, rfl⟩ ?_
  refine wpAny_loadName_local S.kind hka hm' hv ?_
  refine ks_wpAny_isType_cls hD1 hD2 ⟨rfl, ?_⟩
  refine ks_wpAny_call_super hD1 hD2 J.at_ J.cls (fun c e => ?_) (looks_mroIn X hsub) (fun h' e k => ?_)
  · have := J.no
    unfold notCls at this
    rw [e] at this
    exact Bool.noConfusion this
  · exact h h' e k
end
section
variable {prog : Program} {w : World} {A : Around} {E : Value → Shared → Prop} {h : Heap} {g : Array GenState} {d : Drawn} {t : Nat} {os : OsState}
variable {nm q : Str} {C N : Addr} {bs bm : List Value} {hdct : Bool} {sn : List Str} {sub : List Value} {ab : Bool} {col : Option Bool} {dd : Option Addr} {k0 k1 k2 k3 k5 : Option Value}
/-- ValueError.__init__ bound to an exception, called -/
theorem call_mw {u e t0 : Addr} {rest : List Value} {Q : Value → Shared → Prop}
    (hC : h.get? C = some (excClassObj nm q C N bs bm hdct sn sub ab col dd k0 k1 k2 k3 k5 "ValueError.__new__")) (he : h.get? e = some (HandSPX.excO C t0)) (hu : h.get? u = some (kxs_mw "ValueError.__init__" e)) (hrest : rest.length ≤ sizeLine)
    (hq : ∀ h' t1, (∀ b o, b ≠ e → h.get? b = some o → h'.get? b = some o) → h'.get? e = some (HandSPX.excO C t1) → Q .none ⟨h', g, d, t, os⟩) :
    wpAny (model prog w) A (call (.ref u) rest) Q E ⟨h, g, d, t, os⟩ := by
  refine wpAny_call (codeAny_of_tree ?_)
  show wpAny _ A.in1 (callAny (.ref u) ⟨rest, []⟩) _ _ _
  simp only [callAny]
  refine wpAny_bind (wpAny_load hu ?_)
  simp only [kxs_mw, show (Value.type "method-wrapper" == Value.type "method" || Value.type "method-wrapper" == Value.type "builtin_function_or_method" || Value.type "method-wrapper" == Value.type "method-wrapper") = true by decide, if_true]
  refine W.KFB.if_so (by decide) ?_
  refine wpAny_bind (ESX.check_bound F.excBase_ValueError hC he rfl ?_)
  refine wpAny_bind (wpAny_pure (wpAny_pure ?_))
  refine ⟨Code.quiet_builtin _ (by decide +kernel), codeAny_builtin F.excBase_ValueError.initEntry ?_⟩
  rw [Around.under_plainId F.excBase_ValueError.init.plain _]
  wp_walk
  refine hq _ h.objs.size (fun b o hb ho => ?_) ?_
  · rw [Heap.get?_update_other _ _ (Ne.symm hb)]
    exact Heap.get?_push_of_some _ ho
  · rw [Heap.get?_update_self _ (Heap.get?_push_of_some _ he) rfl]
    rfl
end
end Ol

namespace Ol
open PySem PySem.W PySem.Spec PySem.Calls PyProof.Rows L2
section
variable {P : Program} {w : World} {K : Frag} {mg : Str → Option Value} {base : Heap} {N ps : List Str} {x qual : Str} {st : Stmt} {f D : Addr} {fd : FuncData} {k : Nat} {sp : Sp} {p0 p1 p2 p3 p4 : Pos} {e : Expr} {es : List Expr} {rest : List Stmt} {ar : Arg}
theorem hin {env : Env} (h : env.scope.kind = .function) : interactive env = false := by
  unfold interactive
  rw [h]
  rfl
/-- what a class of exceptions says of super().__init__ in a method of its base D -/
structure SupE (K : Frag) (C D : Addr) : Prop where
  oex : OexC K C
  mro : mroIn K C (.ref D) = some true
  sup : ks_superIn K C D "__init__" = some (some (.builtin "ValueError.__init__"))
  sub : subIn K (.ref C) (.type "ValueError") = some true
/-- an exception's __init__ that begins with super().__init__(..) -/
theorem FunS.okE (F : FunS P K x qual st f fd D) (S : SupScope N ps (defScope st)) (hb : defBody st = .Expr (.Call (.Attribute (.Call (.Name "super" p0) [] [] p1) "__init__" p2) (e :: es) [] p3) p4 :: rest) (hp : ((defArgs st).posonlyargs ++ (defArgs st).args).head? = some ar) (hn : N[0]? = some ar.arg) (hka : (defScope st).names.lookup ar.arg = some .local)
    (hms : mg "super" = none) (hop : nsIn K cStatics "thirdparty.any" = some none) (len : ∀ vs H Q E, sp vs H Q E → vs.length = ps.length)
    (hbody : ∀ (cda cc : Addr) (A : Around) (outer : List Env) (s : Shared) (H : Hp) (vs : List V) (Q : VK) (E : XK), Room k (A.deeper (ksEnv qual (defScope st) s.heap.objs.size f (.ref cda) cc)) → sp vs H Q E →
      ∃ (a C : Addr) (ta : TA) (t : TS), (L2.start N vs)[0]? = some (some (.ref a)) ∧ SupE K C D ∧ H a = some (exo a C none) ∧ PA (cxS CX0 P w K mg base N qual (defScope st) f (.ref cda) cc A outer s H E) (e :: es) ta ∧ PSs (cxS CX0 P w K mg base N qual (defScope st) f (.ref cda) cc A outer s H E).nox rest t ∧
        ta (L2.start N vs) H fun ws H1 => ws.length ≤ 1000 ∧ H1 a = some (exo a C none) ∧ t { nx := fun _ H' => Q .non H', rt := Q } (L2.start N vs) H1)
    (he : ∀ env : Env, starEach (e :: es) env = (false, eval e env) :: starEach es env := by intro _; rfl) (hpl : ∀ env : Env, (backTo p3 (starEach es env)).any (·.1) = false := by intro _; rfl)
    (hev : ∀ (env : Env), ∃ pl : Sem Bool, eval (.Call (.Attribute (.Call (.Name "super" p0) [] [] p1) "__init__" p2) (e :: es) [] p3) env = (do
      let ov ← attributeBase (.Call (.Name "super" p0) [] [] p1) "__init__" env (eval (.Call (.Name "super" p0) [] [] p1) env)
      standAt p2.atName
      let (f, first) ← holding [ov] (getMethod ov "__init__" pl)
      callWith p3 f first (backTo p3 (starEach (e :: es) env)) []) := by intro _; exact ⟨_, rfl⟩)
    (hsw : ∀ env : Env, swapsWith (.Call (.Attribute (.Call (.Name "super" p0) [] [] p1) "__init__" p2) (e :: es) [] p3) none p4.line env = pure false := by intro _; rfl) : FnOk P w K mg base CX0 (k + 1) f fd ps sp := by
  obtain ⟨oc, od, kV, doc, pm, an, cda, ct, osl, cc, rfl, lk, hcd, ⟨cl, cld, csl, hcell⟩, ccl, cdd, ccs, cvs, file, tf, hcode, hvs, hfile⟩ := F.ex
  obtain ⟨cdD, hD⟩ := F.cls
  refine ⟨len, fun A outer s H args us vs Q E hr e0 hbd r hsp => ?_⟩
  have hk : ∀ b o, base.get? b = some o → s.heap.get? b = some o := fun b o e => (e0.bs b o e).1
  have KX := e0.mod.kin.keeps hk
  have hl := len _ _ _ _ hsp
  refine ks_codeAny_call_defAt hr.depth (KX _ _ lk) rfl (e0.mod.nolimit.keeps hk) (codeRec_of KX hcd) rfl hbd S.nocell (fun y hy => S.par y.1 (List.of_mem_zip hy).1) (fun h₀ hns hk0 => ?_) S.co S.gen S.kind
  have I : Inv (cxS CX0 P w K mg base N qual (defScope st) f (.ref cda) cc A outer s H E) [] (L2.start N vs) H { s with heap := h₀, toks := s.toks + (ps.zip us).length } := inv_startS S hr.hd e0 hl r hcell hns hk0
  obtain ⟨a, C, ta, t, h0, SE, ea, ha, ht, hta⟩ := hbody cda cc A outer s H vs Q E (hr.deeper _) hsp
  obtain ⟨nm, q, Nc, bs, bm, sn, sub, ab, col, dd, k0, k1, k2, k3, k5, hC, hbm⟩ := SE.oex.cls
  show _root_.PySem.wpAt (model P w) (A.deeper (ksEnv qual (defScope st) s.heap.objs.size f (.ref cda) cc)) (.func (defBody st) (ksEnv qual (defScope st) s.heap.objs.size f (.ref cda) cc)) (execs (defBody st) (ksEnv qual (defScope st) s.heap.objs.size f (.ref cda) cc)) _ _ _
  generalize hbb : defBody st = bb
  rw [hbb] at hb
  subst hb
  obtain ⟨pl, hev'⟩ := hev (ksEnv qual (defScope st) s.heap.objs.size f (.ref cda) cc)
  refine ks_wpAt_execs_cons (ks_wpAt_Expr_any (ks_wpAt_MethodCall (pl := pl) ?_ hev') (hin S.kind) (hsw _))
  obtain ⟨t1, ho⟩ := exo_at I.hok ea
  have J : InstAt h₀ a _ C none := ⟨ho, rfl, rfl, trivial⟩
  refine sup_node I S lk hp hcode hvs hfile hcell hD SE.mro hms (by decide) F.top hn hka h0 J fun h1 e1 k1 => ?_
  have I1 := I.kept (t' := s.toks + (ps.zip us).length) k1
  have J1 : InstAt h1 a _ C none := ⟨k1 _ _ ho, rfl, rfl, trivial⟩
  have X1 : K.In h1 := I1.kIn
  cases hc : clsIn K C with
  | none => have hm := SE.sup; unfold ks_superIn at hm; rw [hc] at hm; cases hm
  | some cd =>
    have hm := SE.sup
    unfold ks_superIn at hm
    rw [hc] at hm
    refine kxs_getMethod kxs_ValueError e1 (looks_opaque X1 hop) (l₀ := cd.mro) (fun A Q E s k q => wpAny_bind ((looks_clsIn X1 hc) A _ E s k (wpAny_pure q))) rfl X1 hm (J1.type.andThen (looks_subIn X1 SE.sub)) (ks_ne X1 J1 hc) (by decide) ?_
    have I2 : Inv (cxS CX0 P w K mg base N qual (defScope st) f (.ref cda) cc A outer s H E) [(h1.objs.size, kxs_mw "ValueError.__init__" a)] (L2.start N vs) H { s with heap := h1.push (kxs_mw "ValueError.__init__" a), toks := s.toks + (ps.zip us).length + 1 } := by
      refine (I1.kept (t' := s.toks + (ps.zip us).length + 1) fun b o e => Heap.get?_push_of_some _ e).pins_of fun p hp => ?_
      cases List.mem_singleton.mp hp
      exact ⟨Heap.get?_push_at rfl rfl, I1.hok.fresh (Nat.le_refl _), Nat.ne_of_gt I1.lt, I1.nofs (Nat.le_refl _), fun v z => by cases z⟩
    have run := ha.run p3 _ _ _ H _ I2 hta
    rw [show starEach (e :: es) (cxS CX0 P w K mg base N qual (defScope st) f (.ref cda) cc A outer s H E).env = (false, eval e (ksEnv qual (defScope st) s.heap.objs.size f (.ref cda) cc)) :: starEach es (ksEnv qual (defScope st) s.heap.objs.size f (.ref cda) cc) from he _] at run
    dsimp only
    rw [he]
    refine kxs_callWith (i := "ValueError.__init__") (x := a) (by show (false || (backTo p3 (starEach es _)).any (·.1)) = false; rw [hpl]; rfl) (evalArgs_plain ?_)
    refine thn run fun ws s3 ⟨zs, H1, I3, rz, hz, ea1, ht1⟩ => ⟨(I3.pin (h1.objs.size, kxs_mw "ValueError.__init__" a) (by simp)).1, ?_⟩
    have pu := (I3.pin (h1.objs.size, kxs_mw "ValueError.__init__" a) (by simp)).1
    obtain ⟨t2, ho3⟩ := exo_at I3.hok ea1
    obtain ⟨hp3, g3, d3, tk3, os3⟩ := s3
    refine call_mw (I3.kIn _ _ hC) ho3 pu (by show ws.length ≤ sizeLine; rw [← Paired.length rz, sizeLine_eq]; omega) fun h' t4 k4 hx => ?_
    have J4 := I3.write (t' := tk3) (x := a) (e := a) (o := exo a C none) (by rw [ea1]; exact True.intro) (.inl rfl) k4 ⟨_, hx⟩ (exo_ok hx)
    have eu : upd H1 a (exo a C none) = H1 := by
      funext b
      by_cases hb : b = a
      · rw [hb, upd_same, ea1]
      · rw [upd_ne hb]
    rw [eu] at J4
    have J5 := J4.pins_of (pins' := []) fun p hp => by cases hp
    refine wpAt_of_wpAny (wpAny_mono (ht.nox.run [] _ _ H1 _ J5 ht1) (fun fl s' hs => ?_) fun e s' hs => hs)
    have fin : ∀ {σ' : L2.St} {H' : Hp} {v : V} {u : Value}, Inv (cxS CX0 P w K mg base N qual (defScope st) f (.ref cda) cc A outer s H E) [] σ' H' s' → L2.RelV v u → Q v H' → CE outer P w H s Q u s' :=
      fun {σ' H' v u} J rv q => ⟨v, H', J.os, J.bare, J.base, J.hok, rv, q⟩
    cases fl with
    | ret u =>
      obtain ⟨v, σ', H', J, rv, q⟩ := hs
      exact fin J rv q
    | next =>
      obtain ⟨σ', H', J, q⟩ := hs
      exact fin (v := V.non) (u := Value.none) J rfl q
    | brk =>
      obtain ⟨_, _, _, q⟩ := hs
      exact False.elim q
    | cont =>
      obtain ⟨_, _, _, q⟩ := hs
      exact False.elim q
end
end Ol

namespace Ol
open PySem PySem.W PySem.Spec PySem.Calls PyProof.Rows L2
/-! ### errors as values -/
/-- at a: an error of the class at C, with the dict d -/
def exv (a C : Addr) (d : Option Addr) : HO := .ext fun h => ∃ (o : Obj) (vs : Array Value), h.get? a = some o ∧ o.cls = .ref C ∧ o.dict = d ∧ o.data = .fields vs
theorem exv_ok {P : Program} {w : World} {H : Hp} {h : Heap} {a C : Addr} {d : Option Addr} {o : Obj} {vs : Array Value} (e : h.get? a = some o) (h1 : o.cls = .ref C) (h2 : o.dict = d) (h3 : o.data = .fields vs) : ObjOk P w H h a (exv a C d) :=
  ⟨⟨o, vs, e, h1, h2, h3⟩, ⟨o, e⟩, fun x y z k => by
    obtain ⟨o, vs, e, h1, h2, h3⟩ := z
    exact ⟨o, vs, k _ e, h1, h2, h3⟩⟩
theorem exv_at {P : Program} {w : World} {H : Hp} {h : Heap} {a C : Addr} {d : Option Addr} (hok : HOk P w H h) (he : H a = some (exv a C d)) : ∃ (o : Obj) (vs : Array Value), h.get? a = some o ∧ o.cls = .ref C ∧ o.dict = d ∧ o.data = .fields vs := by
  have x : ObjOk P w H h a (.ext fun h => ∃ (o : Obj) (vs : Array Value), h.get? a = some o ∧ o.cls = .ref C ∧ o.dict = d ∧ o.data = .fields vs) := hok a _ he
  exact x.1
structure ErrC (K : Frag) (C : Addr) : Prop where
  xf : XfC K C
  ex : ExcC K C
def ErrAt (H : Hp) (a C : Addr) (fs : List (Str × V)) : Prop := ∃ dx, H a = some (exv a C (some dx)) ∧ H dx = some (.xd fs)
theorem ErrAt.same {H H' : Hp} {a C : Addr} {fs : List (Str × V)} (e : ErrAt H a C fs) (s : Same H H') : ErrAt H' a C fs := by
  obtain ⟨dx, h1, h2⟩ := e
  exact ⟨dx, s _ _ h1, s _ _ h2⟩
section
variable {X : Cx} {pins : List (Addr × Obj)} {σ : L2.St} {H : Hp} {s : Shared}
/-- a pinned object is tracked -/
theorem track {a : Addr} {oe : Obj} {vs : Array Value} {o : HO} (I : Inv X ((a, oe) :: pins) σ H s) (n0 : X.s_0.heap.get? a = none) (hp : ∀ p ∈ X.pn ++ pins, p.1 ≠ a) (hd : oe.data = .fields vs) (new : ObjOk X.prog X.w (upd H a o) s.heap a o) : Inv X pins σ (upd H a o) s := by
  obtain ⟨ha, na, nL, nF, nc⟩ := I.pin (a, oe) (List.mem_append_right _ List.mem_cons_self)
  have up : ∀ {b : Addr} {u : HO}, H b = some u → upd H a o b = some u := fun {b u} e => by rw [upd_ne (ne_of_none e na)]; exact e
  have upn : ∀ {b : Addr}, b ≠ a → H b = none → upd H a o b = none := fun {b} n e => by rw [upd_ne n]; exact e
  refine ⟨I.ok, I.os, I.bare, ⟨I.base.keep, I.base.slot, fun b u e n hx => upn (fun z => by rw [z, n0] at e; cases e) (I.base.free b u e n hx), I.base.there, fun b xs e => up (I.base.tups b xs e), fun b ob u e => up (I.base.frzs b ob u e), fun b ps e => by
      obtain ⟨more, q⟩ := I.base.tbls b ps e
      exact ⟨more, up q⟩⟩, I.loc, I.cell, upn (Ne.symm nL) I.free, fun y c e => upn (fun z => ?_) (I.freeC y c e), fun p hp' => ?_, fun b u e => ?_, I.len⟩
  · obtain ⟨v, ob, h1, h2⟩ := I.cell y c e
    rw [z, ha] at h1
    cases h1
    rw [hd] at h2
    cases h2
  · have hp2 : p ∈ X.pn ++ (a, oe) :: pins := by
      rcases List.mem_append.mp hp' with h | h
      · exact List.mem_append_left _ h
      · exact List.mem_append_right _ (List.mem_cons_of_mem _ h)
    obtain ⟨e1, e2, e3, e4, e5⟩ := I.pin p hp2
    exact ⟨e1, upn (hp p hp') e2, e3, e4, e5⟩
  · by_cases hb : b = a
    · subst hb
      rw [upd_same] at e
      cases e
      exact new
    · rw [upd_ne hb] at e
      exact (I.hok b u e).stay (fun c v _ q => q) (fun c q => up q) fun c xs q => up q
/-- e.f, e an error -/
def tFldE (K : Frag) (te : TE) (f : Str) : TE := fun σ H Q => te σ H fun x H1 => ∃ (a C : Addr) (fs : List (Str × V)) (v : V), x = .ref a ∧ ErrAt H1 a C fs ∧ XfC K C ∧ findIn K (.ref C) f = some none ∧ fs.lookup f = some v ∧ Q v H1
theorem pe_fldE {e : Expr} {te : TE} {pos : Pos} {n : Str} (he : PE X e te) (hb : attributeBase e n X.env (eval e X.env) = eval e X.env := by rfl) : PE X (.Attribute e n pos) (tFldE X.K te n) := by
  refine ⟨fun pins s σ H Q I h => ?_⟩
  refine attr_of hb (thn (he.run pins s σ H _ I h) fun u s1 hh => ?_)
  obtain ⟨x, H1, I1, rx, a, C, fs, v, ex, ⟨dd, ea, ed⟩, T, hno, l, q⟩ := hh
  subst ex
  obtain rfl : u = Value.ref a := rx
  obtain ⟨oe, vs, ha, hc, hdi, hd⟩ := exv_at I1.hok ea
  have hx : ObjOk X.prog X.w H1 s1.heap dd (.xd fs) := I1.hok dd _ ed
  obtain ⟨mA, hns, hr⟩ := hx
  obtain ⟨od, ho, hl⟩ := lookIn_ns hns
  obtain ⟨u, hu, ru⟩ := RelO.some_of (v := v) (o := mA n) (by rw [← l]; exact hr n)
  have J : PySem.W.InstAt s1.heap a oe C (some od) := ⟨ha, hc, by unfold PySem.W.notCls; rw [hd] <;> rfl, by rw [hdi]; exact ho⟩
  exact HandSPX.exc_get I1.kIn J T.ga T.gg T.exC (PySem.W.findObj_own T.hdC hno rfl (by rw [hl, hu])) (handed_of ru) ⟨v, H1, I1.tok _, ru, q⟩
/-- an error, whatever it keeps -/
def ErrO (H : Hp) (a C : Addr) : Prop := ∃ d, H a = some (exv a C d) ∧ ∀ dx, d = some dx → ∃ fs, H dx = some (.xd fs)
theorem ErrAt.o {H : Hp} {a C : Addr} {fs : List (Str × V)} (e : ErrAt H a C fs) : ErrO H a C := by
  obtain ⟨dx, h1, h2⟩ := e
  exact ⟨_, h1, fun d e => by cases e; exact ⟨fs, h2⟩⟩
theorem ErrO.inst {a C : Addr} (I : Inv X pins σ H s) (e : ErrO H a C) : ∃ ox od, InstAt s.heap a ox C od := by
  obtain ⟨d, ea, hd'⟩ := e
  obtain ⟨oe, vs, ha, hc, hdi, hd⟩ := exv_at I.hok ea
  cases d with
  | none => exact ⟨oe, none, ha, hc, by unfold PySem.W.notCls; rw [hd] <;> rfl, by rw [hdi]; trivial⟩
  | some dx =>
    obtain ⟨fs, ed⟩ := hd' dx rfl
    have hx : ObjOk X.prog X.w H s.heap dx (.xd fs) := I.hok dx _ ed
    obtain ⟨mA, hns, hr⟩ := hx
    obtain ⟨od, ho, hl⟩ := lookIn_ns hns
    exact ⟨oe, some od, ha, hc, by unfold PySem.W.notCls; rw [hd] <;> rfl, by rw [hdi]; exact ho⟩
/-- isinstance(e, c), e an error -/
def rIsV (K : Frag) : List V → Hp → VK → Prop := fun xs H Q => ∃ (a C : Addr) (c : V) (cv : Value) (b : Bool), xs = [.ref a, c] ∧ ErrO H a C ∧ ExcC K C ∧ ClsV c cv ∧ kitOne K (.ref C) cv = some b ∧ Q (.bl b) H
theorem call_isV : CallR X (.builtin "isinstance") (rIsV X.K) := by
  intro pins s σ H xs us Q I r h
  obtain ⟨a, C, c, cv, b, rfl, eo, T, hcv, e, q⟩ := h
  obtain ⟨u1, u2, rfl, r1, r2⟩ := vals2 r
  cases (show u1 = Value.ref a from r1)
  have e2 := hcv.eq r2
  subst e2
  obtain ⟨ox, od, J⟩ := eo.inst I
  have hcl : (clsIn X.K C).isSome = true := by obtain ⟨cd, hc, _⟩ := any_some T.hd; rw [hc]; rfl
  exact PySem.W.kia_one (kitx_exc hcl T.hg T.hk T.hs T.ha T.hn T.ht T.hm) I.kIn J e (fun z => nomatch z) fun tk => ⟨.bl b, H, I.tok tk, rfl, q⟩
/-- isinstance(e, (c, ..)), e an error -/
def rIsVT (K : Frag) : List V → Hp → VK → Prop := fun xs H Q => ∃ (a C tp : Addr) (cs : List V) (us : List Value) (b : Bool), xs = [.ref a, .ref tp] ∧ ErrO H a C ∧ ExcC K C ∧ H tp = some (.tup cs) ∧ Paired ClsV cs us ∧ kitAny K (.ref C) us = some b ∧ Q (.bl b) H
theorem call_isVT : CallR X (.builtin "isinstance") (rIsVT X.K) := by
  intro pins s σ H xs us Q I r h
  obtain ⟨a, C, tp, cs, ws, b, rfl, eo, T, hT, k, e, q⟩ := h
  obtain ⟨u1, u2, rfl, r1, r2⟩ := vals2 r
  cases (show u1 = Value.ref a from r1)
  cases (show u2 = Value.ref tp from r2)
  obtain ⟨ox, od, J⟩ := eo.inst I
  have hcl : (clsIn X.K C).isSome = true := by obtain ⟨cd, hc, _⟩ := any_some T.hd; rw [hc]; rfl
  obtain ⟨_, its, rv, o, h1, h2, n, h3⟩ := (show ObjOk X.prog X.w H s.heap tp (.tup cs) from I.hok tp _ hT)
  have e3 := ClsV.all k rv
  subst e3
  obtain ⟨oc, od', dt, sl⟩ := o
  simp only at h2 h3
  subst h2 h3
  exact PySem.W.kia_tup (kitx_exc hcl T.hg T.hk T.hs T.ha T.hn T.ht T.hm) I.kIn J h1 e (fun z => nomatch z) fun tk => ⟨.bl b, H, I.tok tk, rfl, q⟩
end
/-! ### try: body, except x as n: suite, the error kept behind the suite -/
def wKeep (K : Frag) (c : Value) (i : Nat) (ts : Addr → Value → Option Addr → TS) (Wout : WX) (D : Ends) : WX := fun cls d σ H =>
  ∃ b, exmOne K cls c = some b ∧ (b = true → ∃ C, cls = .ref C ∧ ∀ a, H a = none → ts a cls d { nx := fun σ' H' => H' a = none ∧ D.nx (σ'.set i none) (upd H' a (exv a C d)), rt := D.rt, bk := fun σ' H' => D.bk (σ'.set i none) H', ct := fun σ' H' => D.ct (σ'.set i none) H' } (σ.set i (some (.ref a))) H) ∧
    (b = false → Wout cls d σ H)
section
variable {X : Cx} {x n : Str} {c : Value} {i : Nat} {body suite : List Stmt} {b₀ : Stmt} {np pos pos' : Pos} {tb : WX → TS} {ts : Addr → Value → Option Addr → TS} {Wout : WX}
theorem unsuiteK {pins : List (Addr × Obj)} {σ : L2.St} {H : Hp} {s : Shared} {a : Addr} {q : Addr × Obj} (I : Inv (X.suite a (q :: (X.pn ++ pins))) [] σ H s) (ok : X.Ok) : Inv X (q :: pins) σ H s :=
  ⟨ok, I.os, I.bare, I.base, I.loc, I.cell, I.free, I.freeC, fun p hp => I.pin p (by
    rw [List.append_nil]
    show p ∈ q :: (X.pn ++ pins)
    rcases List.mem_append.mp hp with h | h
    · exact List.mem_cons_of_mem _ (List.mem_append_left _ h)
    · rcases List.mem_cons.mp h with e | h
      · rw [e]; exact List.mem_cons_self
      · exact List.mem_cons_of_mem _ (List.mem_append_right _ h)), I.hok, I.len⟩
theorem ps_try_keep (hs : X.stack = X.env :: X.outer) (hf : X.env.frame = some X.env.locals) (hex : X.ex = []) (hN : X.N.Nodup) (hi : X.N[i]? = some n) (hln : X.env.kindOf n = some .local) (hc : Names X x c) (tk : Takes X Wout)
    (hb : ∀ (W : WX) (pn : List (Addr × Obj)) (xe : Value → Shared → Prop), Takes (X.tr pn xe) W → PassesOwn (model X.prog X.w) X.A X.env xe → PSs (X.tr pn xe) body (tb W))
    (hsu : ∀ (a : Addr) (oe : Obj) (cls : Value) (d : Option Addr) (pn : List (Addr × Obj)), Zc cls d oe → (∃ vs, oe.data = .fields vs) → PSs (X.suite a ((a, oe) :: pn)) (b₀ :: suite) (ts a cls d)) :
    PS X (.Try body [.ExceptHandler (some (.Name x np)) (some n) (b₀ :: suite) pos'] [] [] pos) (fun D σ H => tb (wKeep X.K c i ts Wout D) D σ H) := by
  refine ⟨fun pins s σ H D I h => ?_⟩
  have ok := I.ok
  have hfr : X.A.frames = some (X.env :: X.outer) := by rw [ok.frames, hs]
  have hloc : Loc X.env.scope n := .inl hln
  refine wpAny_Try_except ?_
  refine wpAny_mono ((hb (wKeep X.K c i ts Wout D) (X.pn ++ pins) (fun e s₁ => wpAny (model X.prog X.w) X.A (noteFrame e X.env) (fun _ s₂ => wpAny (model X.prog X.w) X.A (setFlight e none) (fun _ s₃ =>
    wpAny (model X.prog X.w) X.A (handleBy e X.env [.ExceptHandler (some (.Name x np)) (some n) (b₀ :: suite) pos']) (SP X pins D) X.xe s₃) X.xe s₂) X.xe s₁) (fun u s' xx => ?_) PassesOwn.looking).run [] s σ H D (I.toTry _) h) (fun f s1 hsp => ?_) (fun e s1 he => he)
  · -- the catch
    obtain ⟨a, B, sI, pins', σ', H', cls, d, rfl, J', nb, up, sky, na, os, ag, b, hb1, hyes, hno⟩ := xx
    have J : Inv X pins σ' H' sI := J'.ofTry ok
    have sky' : Sky B (X.env :: X.outer) a (Zc cls d) X.env.locals s'.heap := by rw [← hs]; exact sky
    show wpAny (model X.prog X.w) X.A (noteFrame (.ref a) X.env) _ _ _
    refine Sky.land Zc.steady hfr hf sky' fun h3 fl3 up3 => ?_
    have J3 : Inv X pins σ' H' { s' with heap := h3 } := J.landed nb fl3.1 (up.trans up3) os ag
    have fl0 := fl3
    obtain ⟨oe3, vs3, he3, hz3, hd3⟩ := fl3.there
    have notFr : ∀ {h : Heap} {o : Obj} {vs : Array Value}, h.FunFrames B (X.env :: X.outer) → h.get? a = some o → o.data = .fields vs → a ∉ frs (X.env :: X.outer) := fun {h o vs} ff e dd hm => by
      obtain ⟨_, o', e', hnf⟩ := ff.mem hm
      rw [e] at e'; cases e'
      exact hnf _ dd
    have nfr := notFr fl3.2.2.1 he3 hd3
    have nL : a ≠ X.env.locals := fun z => nfr (List.mem_filterMap.mpr ⟨X.env, List.mem_cons_self, by rw [hf, z]⟩)
    have nF : a ∉ X.fs := fun hm => by
      obtain ⟨e, he, q⟩ := List.mem_filterMap.mp hm
      exact nfr (List.mem_filterMap.mpr ⟨e, List.mem_cons_of_mem _ he, q⟩)
    have nI : sI.heap.get? a = none := by
      cases q : sI.heap.get? a with
      | none => rfl
      | some o =>
        have z := nb a o q (by rw [hs]; exact nfr)
        rw [fl0.2.1] at z
        cases z
    have n0 : X.s_0.heap.get? a = none := by
      cases q : X.s_0.heap.get? a with
      | none => rfl
      | some o =>
        obtain ⟨o', z⟩ := J.base.there a o q (by rw [hex]; simp)
        rw [nI] at z
        cases z
    have np' : ∀ p ∈ X.pn ++ pins, p.1 ≠ a := fun p hp z => by
      have q := (J.pin p hp).1
      rw [z, nI] at q
      cases q
    have S3 := J3.suite he3 hd3 na nL nF
    refine wpAny_handleBy_cons (codeAny_handlers_test ?_) (by intro q; cases q)
    have LT : PySem.W.Looks (model X.prog X.w) h3 (typeOf (.ref a)) cls := fun A Q E s k q => wpAny_typeOf_ref (k _ _ he3) (by rw [hz3.1]; exact q)
    have LM := PySem.W.exm_one (M := model X.prog X.w) (J3.kIn) LT hb1
    have test : ∀ {Q : Value → Shared → Prop} {E : Value → Shared → Prop}, Q c { s' with heap := h3 } → wpAny (model X.prog X.w) (X.A.mark (some (.ref a))) (eval (.Name x np) X.env) Q E { s' with heap := h3 } := fun {Q E} q => by
      obtain ⟨hg, hdbg, hm | ⟨hm, hv, hnn⟩⟩ := hc
      · exact ld_glob (X := X.suite a ((a, oe3) :: (X.pn ++ pins))) S3 hg hm q hdbg
      · exact ld_blt (X := X.suite a ((a, oe3) :: (X.pn ++ pins))) S3 hg hm hv q hnn hdbg
    refine test (LM.here ?_)
    cases b with
    | true =>
      obtain ⟨C, rfl, hyes⟩ := hyes rfl
      refine codeAny_handlers_suite_as ?_
      refine HandSPX.lands_againZ fl3 fun h4 fl4 up4 => ?_
      have J4 : Inv X pins σ' H' { s' with heap := h4 } := J.landed nb fl4.1 ((up.trans up3).trans up4) os ag
      obtain ⟨oe4, vs4, he4, hz4, hd4⟩ := fl4.there
      have S4 := J4.suite he4 hd4 na nL nF
      refine store_ok (X := X.suite a ((a, oe4) :: (X.pn ++ pins))) (v := .ref a) S4 hN hi hloc rfl (fun s5 S5 => ?_) (.inr hln)
      refine wpAny_mono ((hsu a oe4 (.ref C) d (X.pn ++ pins) hz4 ⟨_, hd4⟩).run [] s5 _ H' _ S5 (hyes a na)) (fun f s6 hsp => ?_) (fun _ _ z => False.elim z)
      have end_ : ∀ {σ6 : L2.St} {H6 : Hp} {Q : Shared → Prop}, Inv (X.suite a ((a, oe4) :: (X.pn ++ pins))) [] σ6 H6 s6 → (∀ s7, Inv X pins (σ6.set i none) H6 s7 → Q s7) →
          wpAny (model X.prog X.w) X.A (do bindName X.env n .none; unbindBehindTheSuite X.env n pos') (fun _ s7 => Q s7) X.xe s6 := fun {σ6 H6 Q} S6 hq => gone_ok (S6.unsuite ok) hN hi hln hq
      cases f with
      | next =>
        obtain ⟨σ6, H6, S6, na6, q6⟩ := hsp
        refine gone_ok (unsuiteK S6 ok) hN hi hln fun s7 J7 => ?_
        have pa := (J7.pin (a, oe4) (List.mem_append_right _ List.mem_cons_self)).1
        exact ⟨_, _, track J7 n0 np' hd4 (exv_ok pa hz4.1 hz4.2 hd4), q6⟩
      | brk =>
        obtain ⟨σ6, H6, S6, q6⟩ := hsp
        exact end_ S6 fun s7 J7 => ⟨_, _, J7, q6⟩
      | cont =>
        obtain ⟨σ6, H6, S6, q6⟩ := hsp
        exact end_ S6 fun s7 J7 => ⟨_, _, J7, q6⟩
      | ret u =>
        obtain ⟨v6, σ6, H6, S6, r6, q6⟩ := hsp
        exact end_ S6 fun s7 J7 => ⟨_, _, _, J7, r6, q6⟩
    | false =>
      show wpAny _ X.A (handleBy (.ref a) X.env []) _ _ _
      refine wpAny_handleBy_nil ?_
      obtain ⟨k1, k2, k3, oe, vs, T, oT, ts', he, hz, hd, h1, hr⟩ := id fl3
      unfold PySem.passOn
      refine wpAny_bind (wpAny_field he hd h1 ?_)
      rw [if_neg (show ¬ ((Value.ref T == Value.none) = true) from by simp)]
      have fin : wpAny (model X.prog X.w) X.A (setFlight (.ref a) X.env.frame) (fun _ s4 => wpAny (model X.prog X.w) X.A (throw (.ref a) : Sem Flow) (SP X pins D) X.xe s4) X.xe { s' with heap := h3 } := by
        rw [hf]
        refine HandSPX.setFlight_upZ fl3 fun h4 hh4 up4 => wpAny_throw (tk _ _ ?_)
        exact ⟨a, B, sI, pins, σ', H', cls, d, rfl, J, nb, (up.trans up3).trans up4, .inr (.inr (by rw [hs]; exact hh4)), na, os, ag, hno rfl⟩
      first
        | exact wpAny_bind (wpAny_pure (wpAny_bind fin))
        | exact wpAny_bind fin
  · cases f with
    | next =>
      obtain ⟨σ', H', J', q⟩ := hsp
      exact wpAny_execs_nil ⟨σ', H', J'.ofTry ok, q⟩
    | brk =>
      obtain ⟨σ', H', J', q⟩ := hsp
      exact ⟨σ', H', J'.ofTry ok, q⟩
    | cont =>
      obtain ⟨σ', H', J', q⟩ := hsp
      exact ⟨σ', H', J'.ofTry ok, q⟩
    | ret u =>
      obtain ⟨v, σ', H', J', r, q⟩ := hsp
      exact ⟨v, σ', H', J'.ofTry ok, r, q⟩
end
end Ol

namespace Ol
open PySem PySem.W PySem.Spec PySem.Calls PyProof.Rows L2
section
variable {P : Program} {w : World} {K : Frag} {mg : Str → Option Value} {base : Heap} {N ps ps2 : List Str} {x qual : Str} {st : Stmt} {f f2 D : Addr} {fd fd2 : FuncData} {k k2 : Nat} {sp sp2 : Sp} {p0 p1 p2 p3 p4 : Pos} {e : Expr} {es : List Expr} {ar : Arg}
/-- what a class says of super().__init__ in a method of its base D -/
structure SupO (K : Frag) (C D f2 : Addr) : Prop where
  mro : mroIn K C (.ref D) = some true
  sup : ks_superIn K C D "__init__" = some (some (.ref f2))
/-- an __init__ that is super().__init__(..), an own one -/
theorem FunS.okO (F : FunS P K x qual st f fd D) (S : SupScope N ps (defScope st)) (hb : defBody st = [.Expr (.Call (.Attribute (.Call (.Name "super" p0) [] [] p1) "__init__" p2) (e :: es) [] p3) p4]) (hp : ((defArgs st).posonlyargs ++ (defArgs st).args).head? = some ar) (hn : N[0]? = some ar.arg) (hka : (defScope st).names.lookup ar.arg = some .local)
    (hms : mg "super" = none) (hop : nsIn K cStatics "thirdparty.any" = some none) (len : ∀ vs H Q E, sp vs H Q E → vs.length = ps.length)
    (F2 : FnOk P w K mg base (L2.CX P w) k2 f2 fd2 ps2 sp2) (hk2 : k2 ≤ k) (hb2 : Binds K fd2 ps2 []) (ht2 : isFn K (.ref f2) = true) (hf2 : fnIn K f2 = true)
    (hbody : ∀ (cda cc : Addr) (A : Around) (outer : List Env) (s : Shared) (H : Hp) (vs : List V) (Q : VK) (E : XK), Room k (A.deeper (ksEnv qual (defScope st) s.heap.objs.size f (.ref cda) cc)) → sp vs H Q E →
      ∃ (a C dx : Addr) (fs : List (Str × V)) (ta : TA), (L2.start N vs)[0]? = some (some (.ref a)) ∧ SupO K C D f2 ∧ H a = some (.ins C dx fs) ∧ PA (cxS (L2.CX P w) P w K mg base N qual (defScope st) f (.ref cda) cc A outer s H E) (e :: es) ta ∧
        ta (L2.start N vs) H fun ws H1 => sp2 (.ref a :: ws) H1 (fun _ H2 => Q .non H2) E)
    (he : ∀ env : Env, starEach (e :: es) env = (false, eval e env) :: starEach es env := by intro _; rfl) (hpl : ∀ env : Env, (backTo p3 (starEach es env)).any (·.1) = false := by intro _; rfl)
    (hev : ∀ (env : Env), ∃ pl : Sem Bool, eval (.Call (.Attribute (.Call (.Name "super" p0) [] [] p1) "__init__" p2) (e :: es) [] p3) env = (do
      let ov ← attributeBase (.Call (.Name "super" p0) [] [] p1) "__init__" env (eval (.Call (.Name "super" p0) [] [] p1) env)
      standAt p2.atName
      let (f, first) ← holding [ov] (getMethod ov "__init__" pl)
      callWith p3 f first (backTo p3 (starEach (e :: es) env)) []) := by intro _; exact ⟨_, rfl⟩)
    (hsw : ∀ env : Env, swapsWith (.Call (.Attribute (.Call (.Name "super" p0) [] [] p1) "__init__" p2) (e :: es) [] p3) none p4.line env = pure false := by intro _; rfl) : FnOk P w K mg base (L2.CX P w) (k + 1) f fd ps sp := by
  obtain ⟨oc, od, kV, doc, pm, an, cda, ct, osl, cc, rfl, lk, hcd, ⟨cl, cld, csl, hcell⟩, ccl, cdd, ccs, cvs, file, tf, hcode, hvs, hfile⟩ := F.ex
  obtain ⟨cdD, hD⟩ := F.cls
  refine ⟨len, fun A outer s H args us vs Q E hr e0 hbd r hsp => ?_⟩
  have hk : ∀ b o, base.get? b = some o → s.heap.get? b = some o := fun b o e => (e0.bs b o e).1
  have KX := e0.mod.kin.keeps hk
  have hl := len _ _ _ _ hsp
  refine ks_codeAny_call_defAt hr.depth (KX _ _ lk) rfl (e0.mod.nolimit.keeps hk) (codeRec_of KX hcd) rfl hbd S.nocell (fun y hy => S.par y.1 (List.of_mem_zip hy).1) (fun h₀ hns hk0 => ?_) S.co S.gen S.kind
  have I : Inv (cxS (L2.CX P w) P w K mg base N qual (defScope st) f (.ref cda) cc A outer s H E) [] (L2.start N vs) H { s with heap := h₀, toks := s.toks + (ps.zip us).length } := inv_startS S hr.hd e0 hl r hcell hns hk0
  have hr' := hr.deeper (ksEnv qual (defScope st) s.heap.objs.size f (.ref cda) cc)
  obtain ⟨a, C, dx, fs, ta, h0, SO, ea, ha, hta⟩ := hbody cda cc A outer s H vs Q E hr' hsp
  show _root_.PySem.wpAt (model P w) (A.deeper (ksEnv qual (defScope st) s.heap.objs.size f (.ref cda) cc)) (.func (defBody st) (ksEnv qual (defScope st) s.heap.objs.size f (.ref cda) cc)) (execs (defBody st) (ksEnv qual (defScope st) s.heap.objs.size f (.ref cda) cc)) _ _ _
  generalize hbb : defBody st = bb
  rw [hbb] at hb
  subst hb
  obtain ⟨pl, hev'⟩ := hev (ksEnv qual (defScope st) s.heap.objs.size f (.ref cda) cc)
  refine ks_wpAt_execs_cons (ks_wpAt_Expr_any (ks_wpAt_MethodCall (pl := pl) ?_ hev') (hin S.kind) (hsw _))
  obtain ⟨mA, O, _⟩ := ins_get I.hok ea
  obtain ⟨od', J, _⟩ := O.look
  refine sup_node I S lk hp hcode hvs hfile hcell hD SO.mro hms (by decide) F.top hn hka h0 J fun h1 e1 k1 => ?_
  have I1 := I.kept (t' := s.toks + (ps.zip us).length) k1
  obtain ⟨mA1, O1, _⟩ := ins_get I1.hok ea
  obtain ⟨od1, J1, _⟩ := O1.look
  have X1 : K.In h1 := I1.kIn
  obtain ⟨of, hof, hofc⟩ : ∃ of, h1.get? f2 = some of ∧ of.cls = .type "function" := by
    have ht' : (K.lookup f2).map (·.cls) = some (.type "function") := beq_iff_eq.mp ht2
    cases z : K.lookup f2 with
    | none => rw [z] at ht'; cases ht'
    | some of => rw [z] at ht'; exact ⟨of, X1 _ _ z, Option.some.inj ht'⟩
  cases hc : clsIn K C with
  | none => have hm := SO.sup; unfold ks_superIn at hm; rw [hc] at hm; cases hm
  | some cd =>
    have hm := SO.sup
    unfold ks_superIn at hm
    rw [hc] at hm
    refine ks_wpAny_getMethod_super e1 (looks_opaque X1 hop) (l₀ := cd.mro) (fun A Q E s k q => wpAny_bind ((looks_clsIn X1 hc) A _ E s k (wpAny_pure q))) rfl X1 hm hof hofc (ks_ne X1 J1 hc) (by decide) ?_
    have I2 := ClX.met_new (g := f2) (C := a) I1
    have hq : base.get? h1.objs.size = none := by
      cases z : base.get? h1.objs.size with
      | none => rfl
      | some o =>
        have z1 := Heap.lt_size z
        have z2 := e0.bsz
        have z3 := I1.sz
        exact absurd (Nat.lt_of_lt_of_le z1 (Nat.le_trans z2 z3)) (Nat.lt_irrefl _)
    dsimp only
    refine ClX.callwith_cm (X := cxS (L2.CX P w) P w K mg base N qual (defScope st) f (.ref cda) cc A outer s H E) I2 hq hf2 (thn (ha.run p3 _ _ _ H _ I2 hta) fun ws s3 ⟨zs, H1, I3, rz, hsp2⟩ => ⟨⟨ClX.pin_at I3, I3.kIn⟩, ?_⟩) (he _) (hpl _)
    have hl2 : (Value.ref a :: ws).length = ps2.length := by rw [List.length_cons, ← Paired.length rz, ← List.length_cons]; exact F2.len _ _ _ _ hsp2
    have hb' := hb2 s3 (.ref a :: ws) I3.kIn (by rw [List.append_nil]; exact hl2)
    rw [List.append_nil] at hb'
    refine wpAny_call (method_call (ClX.pin_at I3) (codeAny_mono (F2.run _ _ s3 H1 ⟨.ref a :: ws, []⟩ (.ref a :: ws) (.ref a :: zs) _ E (hr'.mono hk2) I3.env0 hb' (.cons rfl rz) hsp2) fun r s' hq => ?_))
    cases r with
    | error e => exact passes_call (takes_of rfl rfl rfl rfl) (fun _ _ _ _ h => h) _ _ H1 s3 e s' I3 hq
    | ok fl =>
      cases fl with
      | ret u =>
        obtain ⟨v, H2, J2, rv, q⟩ := I3.after hq
        refine wpAt_of_wpAny (wpAny_execs_nil ?_)
        exact ⟨.non, H2, J2.os, J2.bare, J2.base, J2.hok, rfl, q⟩
      | next => exact False.elim hq
      | brk => exact False.elim hq
      | cont => exact False.elim hq
end
end Ol

namespace Ol
open PySem PySem.W PySem.Spec PySem.Calls PyProof.Rows L2
/-! ### the __init__ of errors -/
def spErr1 (C : Addr) (f : Str) : Sp := fun vs H Q _ => ∃ (a : Addr) (v : V), vs = [.ref a, v] ∧ H a = some (exo a C none) ∧ ∀ dx, H dx = none → dx ≠ a → Q .non (upd (upd H dx (exd dx [(f, v)])) a (exo a C (some dx)))
def spErr2 (C : Addr) (f g : Str) : Sp := fun vs H Q _ => ∃ (a : Addr) (v u : V), vs = [.ref a, v, u] ∧ H a = some (exo a C none) ∧ ∀ dx, H dx = none → dx ≠ a → Q .non (upd (upd (upd H dx (exd dx [(f, v)])) a (exo a C (some dx))) dx (exd dx [(g, u), (f, v)]))
section
variable {P : Program} {w : World} {K : Frag} {mg : Str → Option Value} {base : Heap} {qual x y : Str} {st : Stmt} {f C : Addr} {fd : FuncData} {fld gld : Str} {p0 p1 p2 p3 p4 pc q1 q2 q3 q4 r1 r2 r3 r4 : Pos} {msg : Str} {n : Nat} {ar : Arg}
theorem err1_ok (F : FunS P K "__init__" qual st f fd C) (S : SupScope ["self", x] ["self", x] (defScope st))
    (hb : defBody st = [.Expr (.Call (.Attribute (.Call (.Name "super" p0) [] [] p1) "__init__" p2) [.Constant (.str msg) n pc] [] p3) p4, .Assign [.Attribute (.Name "self" q1) fld q2] (.Name x q3) q4])
    (hp : ((defArgs st).posonlyargs ++ (defArgs st).args).head? = some ar) (hn : ar.arg = "self") (hms : mg "super" = none) (hop : nsIn K cStatics "thirdparty.any" = some none) (SE : SupE K C C) (hno : findIn K (.ref C) fld = some none)
    (hdx : (x == ("__debug__" : Str)) = false := by decide) (hcx : (x == ("__classdict__" : Str)) = false := by decide)
    (hev : ∀ (env : Env), ∃ pl : Sem Bool, eval (.Call (.Attribute (.Call (.Name "super" p0) [] [] p1) "__init__" p2) [.Constant (.str msg) n pc] [] p3) env = (do
      let ov ← attributeBase (.Call (.Name "super" p0) [] [] p1) "__init__" env (eval (.Call (.Name "super" p0) [] [] p1) env)
      standAt p2.atName
      let (f, first) ← holding [ov] (getMethod ov "__init__" pl)
      callWith p3 f first (backTo p3 (starEach [.Constant (.str msg) n pc] env)) []) := by intro _; exact ⟨_, rfl⟩) : FnOk P w K mg base CX0 1 f fd ["self", x] (spErr1 C fld) := by
  have l0 := S.par "self" (by simp)
  have l1 := S.par x (by simp)
  refine FunS.okE F S hb hp (by rw [hn]; rfl) (by rw [hn]; exact l0) hms hop (fun vs H Q E h => by obtain ⟨a, v, rfl, _⟩ := h; rfl) (fun cda cc A outer s H vs Q E hr h => ?_) (hev := hev)
  obtain ⟨a, v, rfl, ea, q⟩ := h
  refine ⟨a, C, _, _, rfl, SE, ea, pa_cons pe_str pa_nil, pss_one (ps_ost (pe_var (i := 0) rfl (.inl l0)) (pe_var (i := 1) rfl (.inl l1) hdx hcx)), ?_⟩
  refine ⟨Nat.le_of_ble_eq_true rfl, ea, ?_⟩
  refine ⟨v, rfl, .ref a, rfl, a, C, rfl, SE.oex, hno, .inl ⟨ea, fun dx h1 h2 => ?_⟩⟩
  exact q dx h1 h2
theorem err2_ok (F : FunS P K "__init__" qual st f fd C) (S : SupScope ["self", x, y] ["self", x, y] (defScope st))
    (hb : defBody st = [.Expr (.Call (.Attribute (.Call (.Name "super" p0) [] [] p1) "__init__" p2) [.Constant (.str msg) n pc] [] p3) p4, .Assign [.Attribute (.Name "self" q1) fld q2] (.Name x q3) q4, .Assign [.Attribute (.Name "self" r1) gld r2] (.Name y r3) r4])
    (hp : ((defArgs st).posonlyargs ++ (defArgs st).args).head? = some ar) (hn : ar.arg = "self") (hms : mg "super" = none) (hop : nsIn K cStatics "thirdparty.any" = some none) (SE : SupE K C C) (hno : findIn K (.ref C) fld = some none) (hno2 : findIn K (.ref C) gld = some none)
    (hdx : (x == ("__debug__" : Str)) = false := by decide) (hcx : (x == ("__classdict__" : Str)) = false := by decide) (hdy : (y == ("__debug__" : Str)) = false := by decide) (hcy : (y == ("__classdict__" : Str)) = false := by decide)
    (hev : ∀ (env : Env), ∃ pl : Sem Bool, eval (.Call (.Attribute (.Call (.Name "super" p0) [] [] p1) "__init__" p2) [.Constant (.str msg) n pc] [] p3) env = (do
      let ov ← attributeBase (.Call (.Name "super" p0) [] [] p1) "__init__" env (eval (.Call (.Name "super" p0) [] [] p1) env)
      standAt p2.atName
      let (f, first) ← holding [ov] (getMethod ov "__init__" pl)
      callWith p3 f first (backTo p3 (starEach [.Constant (.str msg) n pc] env)) []) := by intro _; exact ⟨_, rfl⟩) : FnOk P w K mg base CX0 1 f fd ["self", x, y] (spErr2 C fld gld) := by
  have l0 := S.par "self" (by simp)
  have l1 := S.par x (by simp)
  have l2 := S.par y (by simp)
  refine FunS.okE F S hb hp (by rw [hn]; rfl) (by rw [hn]; exact l0) hms hop (fun vs H Q E h => by obtain ⟨a, v, u, rfl, _⟩ := h; rfl) (fun cda cc A outer s H vs Q E hr h => ?_) (hev := hev)
  obtain ⟨a, v, u, rfl, ea, q⟩ := h
  refine ⟨a, C, _, _, rfl, SE, ea, pa_cons pe_str pa_nil, pss_cons (ps_ost (pe_var (i := 0) rfl (.inl l0)) (pe_var (i := 1) rfl (.inl l1) hdx hcx)) (pss_one (ps_ost (pe_var (i := 0) rfl (.inl l0)) (pe_var (i := 2) rfl (.inl l2) hdy hcy))), ?_⟩
  refine ⟨Nat.le_of_ble_eq_true rfl, ea, ?_⟩
  refine ⟨v, rfl, .ref a, rfl, a, C, rfl, SE.oex, hno, .inl ⟨ea, fun dx h1 h2 => ?_⟩⟩
  refine ⟨u, rfl, .ref a, rfl, a, C, rfl, SE.oex, hno2, .inr ⟨dx, [(fld, v)], upd_same, by rw [upd_ne h2]; exact upd_same, Nat.le_of_ble_eq_true rfl, ?_⟩⟩
  exact q dx h1 h2
end
/-! ### what a raise leaves -/
/-- an error of the class at C with the fields fs is let out -/
def Rz (C : Addr) (fs : List (Str × V)) (H : Hp) (E : XK) : Prop := ∀ d H', H d = none → Same H H' → H' d = some (.xd fs) → E (.ref C) (some d) H'
section
variable {H : Hp} {E E' : XK} {C : Addr} {f g : Str} {v u : V}
theorem raise1 (r : Rz C [(f, v)] H E) : [v].length ≤ 1000 ∧ ∀ a, H a = none → spErr1 C f (.ref a :: ([v] ++ [])) (upd H a (exo a C none))
    (fun z H2 => z = .non ∧ ∃ (d : Addr) (fs : List (Str × V)), H2 a = some (exo a C (some d)) ∧ H2 d = some (exd d fs) ∧ H d = none ∧ E (.ref C) (some d) (upd (del H2 a) d (.xd fs))) E' := by
  refine ⟨Nat.le_of_ble_eq_true rfl, fun a ha => ⟨a, v, rfl, upd_same, fun dx hdx hne => ⟨rfl, dx, _, upd_same, by rw [upd_ne hne]; exact upd_same, by rw [upd_ne hne] at hdx; exact hdx, ?_⟩⟩⟩
  rw [upd_ne hne] at hdx
  refine r dx _ hdx (fun b o e => ?_) upd_same
  rw [upd_ne (ne_of_none e hdx), del_ne (ne_of_none e ha), upd_ne (ne_of_none e ha), upd_ne (ne_of_none e hdx), upd_ne (ne_of_none e ha)]
  exact e
theorem raise2 (r : Rz C [(g, u), (f, v)] H E) : [v, u].length ≤ 1000 ∧ ∀ a, H a = none → spErr2 C f g (.ref a :: ([v, u] ++ [])) (upd H a (exo a C none))
    (fun z H2 => z = .non ∧ ∃ (d : Addr) (fs : List (Str × V)), H2 a = some (exo a C (some d)) ∧ H2 d = some (exd d fs) ∧ H d = none ∧ E (.ref C) (some d) (upd (del H2 a) d (.xd fs))) E' := by
  refine ⟨Nat.le_of_ble_eq_true rfl, fun a ha => ⟨a, v, u, rfl, upd_same, fun dx hdx hne => ⟨rfl, dx, _, by rw [upd_ne (Ne.symm hne)]; exact upd_same, upd_same, by rw [upd_ne hne] at hdx; exact hdx, ?_⟩⟩⟩
  rw [upd_ne hne] at hdx
  refine r dx _ hdx (fun b o e => ?_) upd_same
  rw [upd_ne (ne_of_none e hdx), del_ne (ne_of_none e ha), upd_ne (ne_of_none e hdx), upd_ne (ne_of_none e ha), upd_ne (ne_of_none e hdx), upd_ne (ne_of_none e ha)]
  exact e
end
end Ol

namespace Ol
open PySem PySem.W PySem.Spec PySem.Calls PyProof.Rows L2 LamX
/-! ### defs that make lambdas -/
/-- a def whose code object stands at c -/
structure FunL (K : Frag) (x qual : Str) (st : Stmt) (f : Addr) (fd : FuncData) (c : Addr) : Prop where
  ex : ∃ (oc : Value) (od : Option Addr) (kV doc pm : Value) (an : Option Addr) (ct : Value) (osl : Array (Option Value)),
    fd = fnOf x qual (defArgs st) (defBody st) (defScope st) .none kV doc pm an (.ref c) ct ∧ K.lookup f = some ⟨oc, od, .func fd, osl⟩ ∧ codeIn K (.ref c) qual = true
  kp : keepIn K (.ref f) = true
section
variable {P : Program} {w : World} {K : Frag} {mg : Str → Option Value} {base : Heap} {x qual : Str} {st : Stmt} {f c : Addr} {fd : FuncData} {N ps : List Str} {k : Nat} {sp : Sp}
theorem FunL.fn (F : FunL K x qual st f fd c) : Fun K x qual st f fd := by
  obtain ⟨oc, od, kV, doc, pm, an, ct, osl, rfl, lk, hcd⟩ := F.ex
  exact ⟨⟨oc, od, kV, doc, pm, an, _, ct, osl, rfl, lk, hcd⟩, F.kp⟩
theorem FunL.ok (F : FunL K x qual st f fd c) (S : FnScope N ps (defScope st)) (len : ∀ vs H Q E, sp vs H Q E → vs.length = ps.length)
    (hbody : ∀ (A : Around) (outer : List Env) (s : Shared) (H : Hp) (vs : List V) (Q : VK) (E : XK), Room k (A.deeper (envOfC qual (defScope st) s.heap.objs.size f (.ref c))) → sp vs H Q E →
      ∃ t, PSs (cxOf CX0 P w K mg base N qual (defScope st) f (.ref c) A outer s H E).nox (defBody st) t ∧ t { nx := fun _ H' => Q .non H', rt := Q } (L2.start N vs) H) : FnOk P w K mg base CX0 (k + 1) f fd ps sp := by
  obtain ⟨oc, od, kV, doc, pm, an, ct, osl, rfl, lk, hcd⟩ := F.ex
  refine fn_of lk hcd S len fun A outer s H vs Q E hr hsp => ?_
  obtain ⟨t, h, q⟩ := hbody A outer s H vs Q E hr hsp
  exact ⟨t, h.nox, q⟩
end
section
variable {X : Cx} {T : List (Addr × Str)} {TT : (XK → Hp → VK → Prop) → Hp → VK → Prop} {x a : Str} {g c P : Addr} {k : Nat} {st : Stmt} {fd : FuncData} {Ng : List Str} {params : Arguments} {body : Expr} {scope : Scope} {t : XK → TE} {p lpos pos : Pos}
/-- x(lambda: body) -/
theorem pe_lam (F : Fun X.K x x st g fd) (hb : L2.Binds X.K fd [a] []) (Sg : FnScope Ng [a] (defScope st)) (hG : ∀ cdg, GivesTo X Ng x (defScope st) g cdg (defBody st) a (X.env.qual ++ "<lambda>") TT) (hg : Gl X x) (hm : X.mg x = some (.ref g))
    (TB : TabB X.base X.mg c P) (hcode : X.env.code = .ref c) (hmT : (P, X.env.qual ++ "<lambda>") ∈ T) (hu : ∀ p ∈ T, p.1 = P → p.2 = X.env.qual ++ "<lambda>") (hr : Room (k + 2) X.A) (L : LamS X.env.scope scope)
    (hbody : ∀ (A : Around) (outer : List Env) (s : Shared) (H : Hp) (E : XK) (f c' : Addr), Room k (A.deeper (lamEnv X scope s.heap.objs.size f c')) → PE (lamCx X A outer s H E scope f c') body (t E))
    (hNg : Ng[0]? = some a := by rfl) (hdef : defaultsOf params X.env = ([], []) := by rfl)
    (hbind : ∀ (q : Str) (cl : List (Str × Addr)) (pm cv ctv : Value), bindArgs (PySem.W.kla_fn "<lambda>" q params body scope cl pm cv ctv) ⟨[], []⟩ = pure [] := by intro _ _ _ _ _; rfl)
    (hdb : (x == ("__debug__" : Str)) = false := by decide) (hd : (a == ("__debug__" : Str)) = false := by decide) (hcd : (a == ("__classdict__" : Str)) = false := by decide) :
    PE X (.Call (.Name x p) [.Lambda params body scope lpos] [] pos) (tLam T TT t) := by
  obtain ⟨oc, od, kV, doc, pm, an, cdv, ct, osl, rfl, lk, hcd'⟩ := F.ex
  have hv : Vis (defScope st) a := by
    rcases Sg.par a (by simp) with h | h
    · exact .inl h
    · exact .inr (.inl h)
  exact pe_lamcall hg hm F.kp lk hcd' hb Sg hNg hv (hG cdv) TB hcode hmT hu hr L hdef hbind hbody hdb hd hcd
end
/-! ### facts of errors and of methods with super -/
structure ErrT (K : Frag) (C fI : Addr) : Prop where
  se : SupE K C C
  xf : XfC K C
  ex : ExcC K C
  iC : findIn K (.ref C) "__init__" = some (some (.ref fI))
  tI : typeIn K (.ref fI) = some (.type "function")
theorem FunS.binds {P : Program} {K : Frag} {x qual : Str} {st : Stmt} {f D : Addr} {fd : FuncData} {ps : List Str} (F : FunS P K x qual st f fd D)
    (h : ∀ (kV doc pm : Value) (an : Option Addr) (cdv ct : Value) (cc : Addr) (us : List Value), us.length = ps.length → bindArgs (ksFn x qual (defArgs st) (defBody st) (defScope st) .none kV doc pm an cdv ct cc) ⟨us, []⟩ = pure (ps.zip us)) : L2.Binds K fd ps [] := by
  obtain ⟨oc, od, kV, doc, pm, an, cda, ct, osl, cc, rfl, _⟩ := F.ex
  exact .all (h kV doc pm an _ ct cc)
theorem FunS.kbn {P : Program} {K : Frag} {x qual : Str} {st : Stmt} {f D : Addr} {fd : FuncData} {ps ks : List Str} (F : FunS P K x qual st f fd D) (n : Nat) (is : List Nat)
    (h : ∀ (kV doc pm : Value) (an : Option Addr) (cdv ct : Value) (cc : Addr) (us ws : List Value), us.length = n → ws.length = ks.length → bindArgs (ksFn x qual (defArgs st) (defBody st) (defScope st) .none kV doc pm an cdv ct cc) ⟨us, ks.zip ws⟩ = pure (ps.zip (perm is us ws))) :
    KBn K fd ps n ks (perm is) (perm is) := by
  obtain ⟨oc, od, kV, doc, pm, an, cda, ct, osl, cc, rfl, _⟩ := F.ex
  exact ⟨fun s us ws _ h1 h2 => .of_eq (h kV doc pm an _ ct cc us ws h1 h2), fun r1 r2 => r1.append (vals_pick r2 is)⟩
theorem pe_gs {X : Cx} {x : Str} {z : Str} {pos : Pos} (hg : Gl X x) (h : ∃ t, X.mg x = some (Value.str z t)) (hd : (x == ("__debug__" : Str)) = false := by decide) : PE X (.Name x pos) (tC (.str z)) := by
  obtain ⟨t, h⟩ := h
  exact pe_glob hg h ⟨t, rfl⟩ hd
/-! ### heaps beside the pen and the tables -/
def GoT (p : Addr) (H H' : Hp) : Prop := ∀ b o, b ≠ p → (∀ ps, o ≠ .tbl ps) → H b = some o → H' b = some o
theorem GoT.refl (p : Addr) (H : Hp) : GoT p H H := fun _ _ _ _ h => h
theorem GoT.trans {p : Addr} {H H1 H2 : Hp} (a : GoT p H H1) (b : GoT p H1 H2) : GoT p H H2 := fun c o n t h => b c o n t (a c o n t h)
theorem Go.t {p : Addr} {H H' : Hp} (g : Go p H H') : GoT p H H' := fun b o n _ h => g b o n h
theorem ext_t {p : Addr} {H H' : Hp} (g : ExtN H H') : GoT p H H' := fun b o _ t h => g b o h t
theorem same_t {p : Addr} {H H' : Hp} (g : Same H H') : GoT p H H' := fun b o _ _ h => g b o h
theorem Pen.ext {p : Addr} {H H' : Hp} {n : Nat} (h : Pen p H n) (e : ExtN H H') : Pen p H' n := by
  obtain ⟨l, c, sp, g, h1, h2, h3, h4⟩ := h
  exact ⟨l, c, sp, g, e _ _ h1 (fun _ z => by cases z), h2, e _ _ h3 (fun _ z => by cases z), h4⟩
/-- the tables stand beside the pen -/
theorem Tabs.go {p : Addr} {T : List (Addr × Str)} {H H' : Hp} {n : Nat} (t : Tabs T H) (pen : Pen p H n) (g : Go p H H') : Tabs T H' := fun q hq => by
  obtain ⟨ps, h1, h2, h3⟩ := t q hq
  obtain ⟨l, c, sp, gr, p1, _⟩ := pen
  have ne : ∀ {b : Addr} {o : HO}, H b = some o → (∀ xs, o ≠ .lst xs) → b ≠ p := fun {b o} e n z => by
    rw [z, p1] at e
    exact n _ (Option.some.inj e).symm
  refine ⟨ps, g _ _ (ne h1 (fun _ z => by cases z)) h1, h2, fun pos cv hc => ?_⟩
  obtain ⟨c, e1, e2⟩ := h3 pos cv hc
  exact ⟨c, e1, g _ _ (ne e2 (fun _ z => by cases z)) e2⟩
theorem Tabs.same {T : List (Addr × Str)} {H H' : Hp} (t : Tabs T H) (g : Same H H') : Tabs T H' := t.ext g
/-! ### the end -/
theorem walk_ofTT {l : OpenLaw} {n k : Nat} {q : Program} {loose : List Str} {XP : (Str → Option Value) → Heap → Prop} {YP : World → Heap → Prop} {d : DefRec} {K : Params → Frag} {x : Str}
    (hn : l.most = some n) (hn2 : n ≤ sizeLine) (hdf : d.params.defaults = []) (hr : Room k callerA) (hY : ∀ (w : World) (h : Heap), YP w h → (K w.params).In h)
    (F : ∀ (w : World) (mg : Str → Option Value) (fa : Addr) (h : Heap), YP w h →
      (K w.params).In h → h.Ns mainGlobals mg → mg d.name = some (.ref fa) →
      ∃ (fd : FuncData) (cs : List (Addr × Addr)) (sp : Sp), (∀ p ∈ cs, h.get? p.2 = some { cls := .none, data := .fields #[] }) ∧ (∀ p ∈ cs, (K w.params).lookup p.2 = none) ∧ (∀ p ∈ cs, CodeHd h p.1 p.2) ∧ (∀ (s : Shared) (u : Value), BindsTo s fd ⟨[u], []⟩ [(x, u)]) ∧
        (∀ (H : Hp) (a : Addr) (ns : List Int), ns.length ≤ n → (∀ p ∈ cs, H p.2 = some (.tbl #[])) → SqL (K w.params) H a (ns.map V.int) → sp [.ref a] H (fun v _ => v = .bl true) fun _ _ _ => False) ∧
        ∀ base : Heap, (K w.params).In base → base.Ns mainGlobals mg → (∀ p ∈ cs, TabB base mg p.1 p.2) → FnOk l.prog w (K w.params) mg base CX0 k fa fd [x] sp) :
    WalkO q loose XP YP l.row.toRowW d [] (fun f vs => PySem.call f vs) := by
  refine Att.attach_call hn hdf fun w s₀ s₁ mg mb fa o pm cd doc a vs ns G Y ho hd hcd hmg hobj hints hlen hg => ?_
  have KX := hY w _ Y
  obtain ⟨fd, cs, sp, hT, nT, C, hb, hsp, hF⟩ := F w mg fa _ Y KX G.T.g hmg
  exact law_callTs KX G.T.g G.T.b G.T.builtins G.T.nolimit hg hT nT C G.T.bmain hobj hints (Nat.le_trans hlen hn2) hr hF hb (fun H hH hS => hsp H a ns hlen hH hS) fun H e s' z => z
end Ol

namespace Ol
open PySem PySem.Spec PyProof.Rows L2
/-! ### the pen with its cells told -/
def PenAt (p l : Addr) (H : Hp) (n : Nat) : Prop := ∃ (cells : List Int) (spot great : Int), H p = some (.lst [.ref l, .int spot, .int great]) ∧ l ≠ p ∧ H l = some (.lst (cells.map V.int)) ∧ 0 ≤ spot ∧ spot + n ≤ 4000000 ∧ 0 ≤ great ∧ cells.length ≤ 63
theorem PenAt.pen {p l : Addr} {H : Hp} {n : Nat} (h : PenAt p l H n) : Pen p H n := ⟨l, h⟩
theorem PenAt.le {p l : Addr} {H : Hp} {m n : Nat} (h : PenAt p l H n) (le : m ≤ n) : PenAt p l H m := by
  obtain ⟨c, s, g, h1, h2, h3, h4, h5, h6, h7⟩ := h
  exact ⟨c, s, g, h1, h2, h3, h4, by omega, h6, h7⟩
theorem PenAt.same {p l : Addr} {H H' : Hp} {n : Nat} (h : PenAt p l H n) (s : Same H H') : PenAt p l H' n := by
  obtain ⟨c, sp, g, h1, h2, h3, h4⟩ := h
  exact ⟨c, sp, g, s _ _ h1, h2, s _ _ h3, h4⟩
theorem PenAt.set {p l a : Addr} {H : Hp} {n : Nat} {o : HO} (h : PenAt p l H n) (n1 : a ≠ p) (n2 : a ≠ l) : PenAt p l (upd H a o) n := by
  obtain ⟨c, sp, g, h1, h2, h3, h4⟩ := h
  exact ⟨c, sp, g, by rw [upd_ne (Ne.symm n1)]; exact h1, h2, by rw [upd_ne (Ne.symm n2)]; exact h3, h4⟩
def spDrawL : Sp := fun vs H Q _ => ∃ (p l : Addr) (many : Int) (n : Nat), vs = [.ref p, .int many] ∧ 0 < many ∧ many.natAbs < 2 ^ 250 ∧ PenAt p l H (n + 1) ∧ ∀ (d : Int) (H' : Hp), Go p H H' → PenAt p l H' n → 0 ≤ d → d < many → Q (.int d) H'
theorem fn_weak {P : Program} {w : World} {K : PySem.W.Frag} {mg : Str → Option Value} {base : Heap} {CX : CXT} {k : Nat} {f : Addr} {fd : FuncData} {ps : List Str} {sp sp' : Sp} (F : FnOk P w K mg base CX k f fd ps sp) (h : ∀ vs H Q E, sp' vs H Q E → sp vs H Q E) : FnOk P w K mg base CX k f fd ps sp' :=
  ⟨fun vs H Q E z => F.len _ _ _ _ (h _ _ _ _ z), fun A o s H a u v Q E hr e0 hb r z => F.run A o s H a u v Q E hr e0 hb r (h _ _ _ _ z)⟩
theorem draw_weak {vs : List V} {H : Hp} {Q : VK} {E : XK} (h : spDraw vs H Q E) : spDrawL vs H Q E := by
  obtain ⟨p, many, n, e, h0, h1, ⟨l, pen⟩, q⟩ := h
  exact ⟨p, l, many, n, e, h0, h1, pen, fun d H' g pen' => q d H' g pen'.pen⟩
/-! ### names -/
def letters : Str := "abcdefghijklmnopqrstuvwxyz"
def isLet (c : Nat) : Bool := !(Builtin.Str.occurrences letters ⟨#[c]⟩ 0 letters.length 1).isEmpty
def isName (z : Str) : Bool := decide (1 ≤ z.length ∧ z.length ≤ 8) && z.cps.toList.all isLet
def NoStr (K : PySem.W.Frag) (H : Hp) (x : V) : Prop := ∃ t, TyX K H x t ∧ PySem.W.kitOne K t (.type "str") = some false
def spIsName (K : PySem.W.Frag) : Sp := fun vs H Q _ => ∃ x, vs = [x] ∧ ((∃ z, x = .str z ∧ z.length ≤ 1000 ∧ ∀ H', Same H H' → Q (.bl (isName z)) H') ∨ (NoStr K H x ∧ Q (.bl false) H))
def spNumber (K : PySem.W.Frag) : Sp := fun vs H Q _ => ∃ x, vs = [x] ∧ ((∃ i, x = .int i ∧ Q (.bl (decide (0 ≤ i ∧ i ≤ 1000000000000))) H) ∨ (NoInt K H x ∧ Q (.bl false) H))
section
variable {K : PySem.W.Frag} {σ : L2.St} {H : Hp} {Q : VK} {te ta : TE} {g : TG} {t : TT} {vs : List Nat} {a : Addr}
theorem t_lcS (h : ta σ H fun x H1 => ∃ z, x = .str z ∧ ∀ D, H1 D = none → LcW (Its z) g t te vs σ H1 D Q) : tLc (iStr ta) g t te vs σ H Q := h
/-- one item for each turn, the heap left -/
theorem lc_map {J : L2.It} {n : Nat} {G : Hp → Prop} {Y : Nat → Hp → V → Hp → Prop} (w : Walk J n G Y) {D : Addr} {F xf : Nat → V} (hn : n ≤ 1000) (hy : ∀ i H x H', i < n → Y i H x H' → H' = H ∧ x = xf i) (hG : ∀ l, G (upd H D (.lst l)))
    (ht : ∀ (i : Nat) (R : L2.St → V → Hp → Prop) (l : List V), i < n → (∀ σ2, R σ2 (F i) (upd H D (.lst l))) → g (xf i) (wipe σ vs) (upd H D (.lst l)) fun σ2 H2 => wipe σ2 vs = wipe σ vs ∧ te σ2 H2 (R σ2)) (q : Q (.ref D) (upd H D (.lst ((List.range n).map F)))) : LcW J g tYes te vs σ H D Q := by
  refine lc_it w (Qd := fun H' => Q (.ref D) H') (fun i H' => H' = upd H D (.lst ((List.range i).map F))) rfl (fun i H' _ e => e ▸ hG _) (fun i x H1 H2 hi e y => ?_) fun H' e => e ▸ q
  obtain ⟨e1, e2⟩ := hy i H1 x H2 hi y
  subst e1 e2 e
  refine ht i (fun σ2 y H4 => ∃ acc, H4 D = some (.lst acc) ∧ acc.length < sizeLine ∧ upd H4 D (.lst (acc ++ [y])) = upd H D (.lst ((List.range (i + 1)).map F))) _ hi fun σ2 => ⟨_, upd_same, ?_, ?_⟩
  · rw [List.length_map, List.length_range]
    exact Nat.lt_of_lt_of_le hi (Nat.le_trans hn (by decide))
  · funext b
    by_cases hb : b = D
    · rw [hb, upd_same, upd_same, List.range_succ, List.map_append]
      rfl
    · rw [upd_ne hb, upd_ne hb, upd_ne hb]
theorem map_cps (z : Str) (f : Nat → V) : (List.range z.cps.size).map (fun i => f (z.cps.getD i 0)) = z.cps.toList.map f := by
  apply List.ext_getElem
  · simp
  · intro i h1 h2
    have hi : i < z.cps.size := by simpa using h1
    simp [Array.getD, hi]
theorem lcS_map {z : Str} {D : Addr} {f : Nat → V} (hz : z.length ≤ 1000)
    (ht : ∀ (c : Nat) (R : L2.St → V → Hp → Prop) (l : List V), (∀ σ2, R σ2 (f c) (upd H D (.lst l))) → g (.str ⟨#[c]⟩) (wipe σ vs) (upd H D (.lst l)) fun σ2 H2 => wipe σ2 vs = wipe σ vs ∧ te σ2 H2 (R σ2)) (q : Q (.ref D) (upd H D (.lst (z.cps.toList.map f)))) : LcW (Its z) g tYes te vs σ H D Q := by
  rw [← map_cps] at q
  refine lc_map walk_str (xf := fun i => .str ⟨#[z.cps.getD i 0]⟩) hz (fun i H x H' hi y => ?_) (fun _ => trivial) (fun i R l hi h => ht _ R l h) q
  obtain ⟨e, c, h1, h2⟩ := y
  refine ⟨e, ?_⟩
  rw [h2, Array.getD_eq_getD_getElem?, h1]
  rfl
theorem NoStr.non : NoStr K H .non := ⟨_, .base .non, kit_ty (by decide +kernel)⟩
theorem NoStr.bl (b : Bool) : NoStr K H (.bl b) := ⟨_, .base (.bl b), kit_ty (by decide +kernel)⟩
theorem NoStr.int (i : Int) : NoStr K H (.int i) := ⟨_, .base (.int i), kit_ty (by decide +kernel)⟩
theorem NoStr.lst {xs : List V} (h : H a = some (.lst xs)) : NoStr K H (.ref a) := ⟨_, .base (.lst h), kit_ty (by decide +kernel)⟩
theorem NoStr.tup {xs : List V} (h : H a = some (.tup xs)) : NoStr K H (.ref a) := ⟨_, .base (.tup h), kit_ty (by decide +kernel)⟩
theorem NoStr.dK {kvs : List (Key × V)} (h : H a = some (.dK kvs)) : NoStr K H (.ref a) := ⟨_, .base (.dK h), kit_ty (by decide +kernel)⟩
end
end Ol

namespace Ol
open PySem PySem.Spec PyProof.Rows L2
theorem t_mkO {σ : L2.St} {H : Hp} {C : Addr} {sp : Sp} {dvs : List V} {ta : TA} {Q : XK} (h : ta σ H fun vs H1 => vs.length ≤ 1000 ∧ ∀ a, H1 a = none → sp (.ref a :: (vs ++ dvs)) (upd H1 a (exo a C none))
  (fun v H2 => v = .non ∧ ∃ (d : Addr) (fs : List (Str × V)), H2 a = some (exo a C (some d)) ∧ H2 d = some (exd d fs) ∧ H1 d = none ∧ Q (.ref C) (some d) (upd (del H2 a) d (.xd fs))) (fun _ _ _ => False)) : tMkO C sp dvs ta σ H Q := h
theorem takes_len {X : Cx} {W : WX} (t : Takes X W) : Takes X (fun cls d σ H => σ.length = X.N.length → W cls d σ H) := fun u s' ⟨a, B, sI, pins, σ, H, cls, d, e, I, nb, up, sky, na, os, ag, w⟩ =>
  t u s' ⟨a, B, sI, pins, σ, H, cls, d, e, I, nb, up, sky, na, os, ag, w I.len⟩
theorem r_isN {x : V} {H : Hp} {Q : VK} (h : Q (.bl (decide (x = .non))) H) : (fun x y H (Q : VK) => y = V.non ∧ Q (.bl (decide (x = .non))) H) x .non H Q := ⟨rfl, h⟩
theorem t_fldE {K : PySem.W.Frag} {σ : L2.St} {H : Hp} {Q : VK} {te : TE} {f : Str} (h : te σ H fun x H1 => ∃ (a C : Addr) (fs : List (Str × V)) (v : V), x = .ref a ∧ ErrAt H1 a C fs ∧ XfC K C ∧ PySem.W.findIn K (.ref C) f = some none ∧ fs.lookup f = some v ∧ Q v H1) : tFldE K te f σ H Q := h
/-! ### values in the places of a trip -/
def NameV (K : PySem.W.Frag) (H : Hp) (x : V) (b : Bool) : Prop := (∃ z, x = .str z ∧ z.length ≤ 1000 ∧ isName z = b) ∨ ((∀ H', Same H H' → NoStr K H' x) ∧ b = false)
def NumV (K : PySem.W.Frag) (H : Hp) (x : V) (lo : Int) (b : Bool) : Prop := (∃ i, x = .int i ∧ decide (lo ≤ i ∧ i ≤ 1000000000000) = b) ∨ ((∀ H', Same H H' → NoInt K H' x) ∧ b = false)
section
variable {K : PySem.W.Frag} {H H' : Hp} {x : V} {b : Bool} {lo : Int} {Q : VK} {E : XK}
theorem NameV.same (n : NameV K H x b) (s : Same H H') : NameV K H' x b := by
  rcases n with n | ⟨n, e⟩
  · exact .inl n
  · exact .inr ⟨fun H2 s2 => n H2 (s.trans s2), e⟩
theorem NumV.same (n : NumV K H x lo b) (s : Same H H') : NumV K H' x lo b := by
  rcases n with n | ⟨n, e⟩
  · exact .inl n
  · exact .inr ⟨fun H2 s2 => n H2 (s.trans s2), e⟩
theorem u_name (n : NameV K H x b) (q : ∀ H', Same H H' → Q (.bl b) H') : spIsName K [x] H Q E := by
  rcases n with ⟨z, rfl, hz, rfl⟩ | ⟨n, rfl⟩
  · exact ⟨_, rfl, .inl ⟨z, rfl, hz, q⟩⟩
  · exact ⟨_, rfl, .inr ⟨n H fun _ _ e => e, q H fun _ _ e => e⟩⟩
theorem u_number (n : NumV K H x 0 b) (q : Q (.bl b) H) : spNumber K [x] H Q E := by
  rcases n with ⟨i, rfl, rfl⟩ | ⟨n, rfl⟩
  · exact ⟨_, rfl, .inl ⟨i, rfl, q⟩⟩
  · exact ⟨_, rfl, .inr ⟨n H fun _ _ e => e, q⟩⟩
theorem u_between (n : NumV K H x lo b) (q : Q (.bl b) H) : spBetween K [x, .int lo, .int 1000000000000] H Q E := by
  rcases n with ⟨i, rfl, rfl⟩ | ⟨n, rfl⟩
  · exact ⟨_, _, _, rfl, .inl ⟨i, rfl, q⟩⟩
  · exact ⟨_, _, _, rfl, .inr ⟨n H fun _ _ e => e, q⟩⟩
end
/-- the first part that is wrong -/
def dueOf (bn bs bl bt bg : Bool) : Option Str := if bn = false then some "name" else if bs = false ∨ bg = false then some "place" else if bl = false then some "leaves" else if bt = false then some "takes" else none
def tripFs (n s l t g : V) : List (Str × V) := putF "goal" g (putF "takes" t (putF "leaves" l (putF "start" s (putF "name" n []))))
structure TripC (K : PySem.W.Frag) (C : Addr) : Prop where
  cl : Cls K C
  name : NoAttr K C "name"
  start : NoAttr K C "start"
  leaves : NoAttr K C "leaves"
  takes : NoAttr K C "takes"
  goal : NoAttr K C "goal"
/-- what stands in the places of a trip -/
structure Parts (K : PySem.W.Frag) (H : Hp) (n s l t g : V) (bn bs bl bt bg : Bool) : Prop where
  n : NameV K H n bn
  s : NameV K H s bs
  l : NumV K H l 0 bl
  t : NumV K H t 1 bt
  g : NameV K H g bg
theorem Parts.same {K : PySem.W.Frag} {H H' : Hp} {n s l t g : V} {bn bs bl bt bg : Bool} (p : Parts K H n s l t g bn bs bl bt bg) (e : Same H H') : Parts K H' n s l t g bn bs bl bt bg := ⟨p.n.same e, p.s.same e, p.l.same e, p.t.same e, p.g.same e⟩
def spTrip (K : PySem.W.Frag) (BT : Addr) : Sp := fun vs H Q E => ∃ (a C dx : Addr) (n s l t g : V) (bn bs bl bt bg : Bool), vs = [.ref a, n, s, l, t, g] ∧ H a = some (.ins C dx []) ∧ TripC K C ∧ Parts K H n s l t g bn bs bl bt bg ∧
  (∀ w, dueOf bn bs bl bt bg = some w → ∀ H', Same H H' → Rz BT [("part", .str w)] H' E) ∧ (dueOf bn bs bl bt bg = none → ∀ H', Same H H' → Q .non (upd H' a (.ins C dx (tripFs n s l t g))))
def spRun (K : PySem.W.Frag) (C BT : Addr) : Sp := fun vs H Q E => ∃ (a dx : Addr) (n s l t g : V), vs = [.ref a, n, s, l, t, g] ∧ H a = some (.ins C dx []) ∧ spTrip K BT vs H Q E
def spStay (K : PySem.W.Frag) (C BT : Addr) : Sp := fun vs H Q E => ∃ (a dx : Addr) (n s l t : V), vs = [.ref a, n, s, l, t] ∧ H a = some (.ins C dx []) ∧ spTrip K BT [.ref a, n, s, l, t, s] H Q E
/-! ### within a comprehension: the written part told -/
section
variable {X : Cx} {K : PySem.W.Frag}
theorem ix_listK (h : X.K = K) : IxR X (rIxL K) := by subst h; exact ix_list
theorem ix_tupK (h : X.K = K) : IxR X (rIxT K) := by subst h; exact ix_tup
theorem op_inK (h : X.K = K) : OpR X (compareOp .In) (rIn K false) := by subst h; exact op_in_seq
theorem op_notInK (h : X.K = K) : OpR X (compareOp .NotIn) (rIn K true) := by subst h; exact op_notIn_seq
theorem op_eqDK (h : X.K = K) (hu : X.A.units + 64 < cLine) : OpR X (compareOp .Eq) (rEqD K) := by subst h; exact op_eqD hu
theorem op_neDK (h : X.K = K) (hu : X.A.units + 64 < cLine) : OpR X (compareOp .NotEq) (rNeD K) := by subst h; exact op_neD hu
theorem pe_fldK {e : Expr} {ta : TE} {f : Str} {pos : Pos} (h : X.K = K) (he : PE X e ta) (hb : attributeBase e f X.env (eval e X.env) = eval e X.env) : PE X (.Attribute e f pos) (tFld K ta f) := by subst h; exact pe_fld he hb
theorem call_lenK (h : X.K = K) : CallR X (.builtin "len") (fun xs H Q => ∃ p ys, xs = [.ref p] ∧ (SqL K H p ys ∨ SqT K H p ys) ∧ Q (.int ys.length) H) := by subst h; exact call_len_seq
theorem call_isiK' (h : X.K = K) : CallR X (.builtin "isinstance") (rIsi K) := by subst h; exact call_isi
end
theorem upd2 {H : Hp} {a : Addr} {o1 o2 : HO} : upd (upd H a o1) a o2 = upd H a o2 := by
  funext b
  by_cases hb : b = a
  · rw [hb, upd_same, upd_same]
  · rw [upd_ne hb, upd_ne hb, upd_ne hb]
/-- some items are kept, the heap left -/
theorem lcL_filter {K : PySem.W.Frag} {σ : L2.St} {H : Hp} {Q : VK} {te : TE} {g : TG} {t : TT} {vs : List Nat} {a D : Addr} {xs : List V} {f : V → Bool} (hx : xs.length ≤ 1000) (hs : ∀ l, SqL K (upd H D (.lst l)) a xs)
    (ht : ∀ x ∈ xs, ∀ (R : V → Hp → Prop) (N : Hp → Prop) (l : List V), (f x = true → R x (upd H D (.lst l))) → (f x = false → N (upd H D (.lst l))) → g x (wipe σ vs) (upd H D (.lst l)) fun σ2 H2 => wipe σ2 vs = wipe σ vs ∧ t σ2 H2 fun b H3 => if b = true then te σ2 H3 R else N H3)
    (q : Q (.ref D) (upd H D (.lst (xs.filter f)))) : LcW (Itl K a) g t te vs σ H D Q := by
  refine lc_list (Qd := fun H' => Q (.ref D) H') (xs := xs) (fun i H' => H' = upd H D (.lst ((xs.take i).filter f))) (by simp) (fun i H' _ e => e ▸ hs _) (fun i x H' hx' e => ?_) fun H' e => by rw [List.take_length] at e; exact e ▸ q
  subst e
  have tk : xs.take (i + 1) = xs.take i ++ [x] := by rw [List.take_succ, hx']; rfl
  refine ht x (List.mem_of_getElem? hx') (fun y H4 => ∃ acc, H4 D = some (.lst acc) ∧ acc.length < sizeLine ∧ upd H4 D (.lst (acc ++ [y])) = upd H D (.lst ((xs.take (i + 1)).filter f))) (fun H3 => H3 = upd H D (.lst ((xs.take (i + 1)).filter f))) _ (fun h => ⟨_, upd_same, ?_, ?_⟩) fun h => ?_
  · refine Nat.lt_of_le_of_lt (List.length_filter_le _ _) ?_
    rw [List.length_take]
    exact Nat.lt_of_le_of_lt (Nat.le_trans (Nat.min_le_right _ _) hx) (by decide)
  · rw [upd2, tk, List.filter_append, List.filter_cons_of_pos h]
    rfl
  · rw [tk, List.filter_append, List.filter_cons_of_neg (by rw [h]; decide)]
    simp
theorem filter_empty {α : Type} (p : α → Bool) : ∀ l : List α, (l.filter p).isEmpty = !(l.any p)
  | [] => rfl
  | a :: l => by
    cases h : p a with
    | true => rw [List.filter_cons_of_pos h, List.any_cons, h]; rfl
    | false => rw [List.filter_cons_of_neg (by rw [h]; decide), List.any_cons, h, Bool.false_or]; exact filter_empty p l
/-! ### values of all kinds beside the pen -/
def OddV (p : Addr) (H : Hp) : V → Prop
  | .non => True
  | .bl _ => True
  | .int _ => True
  | .str z => z.length ≤ 1000
  | .ref a => a ≠ p ∧ ((∃ xs, H a = some (.lst xs)) ∨ (∃ xs, H a = some (.tup xs)) ∨ ∃ kvs, H a = some (.dK kvs))
  | _ => False
def nameB : V → Bool
  | .str z => isName z
  | _ => false
def numB (lo : Int) : V → Bool
  | .int i => decide (lo ≤ i ∧ i ≤ 1000000000000)
  | _ => false
section
variable {K : PySem.W.Frag} {p : Addr} {H H' : Hp} {x : V}
theorem OddV.got (o : OddV p H x) (g : GoT p H H') : OddV p H' x := by
  cases x with
  | ref a =>
    obtain ⟨n, ⟨xs, h⟩ | ⟨xs, h⟩ | ⟨xs, h⟩⟩ := o
    · exact ⟨n, .inl ⟨xs, g _ _ n (fun _ z => by cases z) h⟩⟩
    · exact ⟨n, .inr (.inl ⟨xs, g _ _ n (fun _ z => by cases z) h⟩)⟩
    · exact ⟨n, .inr (.inr ⟨xs, g _ _ n (fun _ z => by cases z) h⟩)⟩
  | _ => exact o
theorem OddV.name (o : OddV p H x) : NameV K H x (nameB x) := by
  cases x with
  | non => exact .inr ⟨fun _ _ => .non, rfl⟩
  | bl b => exact .inr ⟨fun _ _ => .bl b, rfl⟩
  | int i => exact .inr ⟨fun _ _ => .int i, rfl⟩
  | str z => exact .inl ⟨z, rfl, o, rfl⟩
  | ref a =>
    obtain ⟨n, ⟨xs, h⟩ | ⟨xs, h⟩ | ⟨xs, h⟩⟩ := o
    · exact .inr ⟨fun _ s => .lst (s _ _ h), rfl⟩
    · exact .inr ⟨fun _ s => .tup (s _ _ h), rfl⟩
    · exact .inr ⟨fun _ s => .dK (s _ _ h), rfl⟩
  | _ => exact o.elim
theorem OddV.num {lo : Int} (o : OddV p H x) : NumV K H x lo (numB lo x) := by
  cases x with
  | non => exact .inr ⟨fun _ _ => .non, rfl⟩
  | bl b => exact .inr ⟨fun _ _ => .bl b, rfl⟩
  | int i => exact .inl ⟨i, rfl, rfl⟩
  | str z => exact .inr ⟨fun _ _ => .str z, rfl⟩
  | ref a =>
    obtain ⟨n, ⟨xs, h⟩ | ⟨xs, h⟩ | ⟨xs, h⟩⟩ := o
    · exact .inr ⟨fun _ s => .lst (s _ _ h), rfl⟩
    · exact .inr ⟨fun _ s => .tup (s _ _ h), rfl⟩
    · exact .inr ⟨fun _ s => .dK (s _ _ h), rfl⟩
  | _ => exact o.elim
end
theorem t_dnew {σ : L2.St} {H : Hp} {Q : VK} (h : ∀ p, H p = none → Q (.ref p) (upd H p (.dK []))) : tDNewK σ H Q := h
def optV : Option Str → V
  | none => .non
  | some z => .str z
/-- a trip made, or refused, under heard -/
theorem mk_trip {K : PySem.W.Frag} {H : Hp} {C BT : Addr} {n s l t g : V} {bn bs bl bt bg : Bool} {Ech : XK} {Qc R : VK} (tc : TripC K C) (pa : Parts K H n s l t g bn bs bl bt bg)
    (hE : ∀ v dd H', H' dd = some (.xd [("part", v)]) → (∀ H'', Same H' H'' → R v H'') → Ech (.ref BT) (some dd) H') (hQ : ∀ v H1, R .non H1 → Qc v H1) (q : ∀ H', Same H H' → R (optV (dueOf bn bs bl bt bg)) H') {x dx : Addr} (hx : H x = none) (hd : H dx = none) :
    spTrip K BT [.ref x, n, s, l, t, g] (upd (upd H dx (.own x)) x (.ins C dx [])) (fun v H2 => v = .non ∧ Qc (.ref x) H2) Ech := by
  have S : Same H (upd (upd H dx (.own x)) x (.ins C dx [])) := fun b o e => by rw [upd_ne (ne_of_none e hx), upd_ne (ne_of_none e hd)]; exact e
  refine ⟨x, C, dx, n, s, l, t, g, bn, bs, bl, bt, bg, rfl, upd_same, tc, pa.same S, fun w hw H' S' d H'' _ S'' hxd => hE _ d H'' hxd fun H3 S3 => ?_, fun hn H' S' => ⟨rfl, hQ _ _ ?_⟩⟩
  · rw [hw] at q
    exact q H3 (((S.trans S').trans S'').trans S3)
  · rw [hn] at q
    refine q _ fun b o e => ?_
    rw [upd_ne (ne_of_none e hx)]
    exact (S.trans S') b o e
theorem inV_ints (n : Nat) : ∀ ns : List Nat, inV (.int (n : Int)) (ns.map fun (k : Nat) => V.int (k : Int)) = decide (n ∈ ns)
  | [] => rfl
  | k :: r => by
    have ih := inV_ints n r
    unfold inV at ih ⊢
    rw [List.map_cons, List.any_cons, ih]
    by_cases h : n = k
    · subst h; simp [eqV]
    · have e : eqV (.int (k : Int)) (.int (n : Int)) = false := by simp [eqV]; omega
      rw [e]; simp [h]
theorem t_bm {K : PySem.W.Frag} {T : String} {r : V → List V → Hp → VK → Prop} {to : TE} {t : TA} {σ : L2.St} {H : Hp} {Q : VK} (h : to σ H fun x H1 => tyV K T x H1 ∧ t σ H1 fun xs H2 => r x xs H2 Q) : tBM K T r to t σ H Q := h
theorem t_lam {T : List (Addr × Str)} {TT : (XK → Hp → VK → Prop) → Hp → VK → Prop} {t : XK → TE} {σ : L2.St} {H : Hp} {Q : VK} (tab : LamX.Tabs T H) (h : ∀ H1, LamX.ExtN H H1 → LamX.Tabs T H1 → TT (fun E H' Q' => t E σ H' Q') H1 Q) : LamX.tLam T TT t σ H Q := ⟨tab, h⟩
theorem odd_if {p : Addr} {H : Hp} {c : Prop} [Decidable c] {a b : V} {B : V → Bool} (h1 : OddV p H a) (h2 : OddV p H b) (h3 : B a = false) (h4 : B b = true) : OddV p H (if c then a else b) ∧ B (if c then a else b) = !decide c := by
  by_cases h : c
  · rw [if_pos h, decide_eq_true h]; exact ⟨h1, h3⟩
  · rw [if_neg h, decide_eq_false h]; exact ⟨h2, h4⟩
theorem Tabs.upd {T : List (Addr × Str)} {H : Hp} {a : Addr} {xs : List V} {o : HO} (t : LamX.Tabs T H) (h : H a = some (.lst xs)) : LamX.Tabs T (upd H a o) := fun q hq => by
  obtain ⟨ps, h1, h2, h3⟩ := t q hq
  have ne : ∀ {b : Addr} {u : HO}, H b = some u → (∀ xs, u ≠ .lst xs) → b ≠ a := fun {b u} e n z => by
    rw [z, h] at e
    exact n _ (Option.some.inj e).symm
  refine ⟨ps, by rw [upd_ne (ne h1 (fun _ z => by cases z))]; exact h1, h2, fun pos cv hc => ?_⟩
  obtain ⟨c, e1, e2⟩ := h3 pos cv hc
  exact ⟨c, e1, by rw [upd_ne (ne e2 (fun _ z => by cases z))]; exact e2⟩
end Ol

namespace Ol
open PySem
def words : List Str := ["name", "place", "leaves", "takes", "place"]
/-- the first word of some places -/
def dueW (ns : List Nat) : Option Str := (["name", "place", "leaves", "takes"] : List Str).find? fun wd => (ns.any fun n => words[n]? == some wd)
theorem any_word {ns : List Nat} (h : ∀ n ∈ ns, n < 5) {wd : Str} (f : Nat → Bool) (hf : ∀ n, n < 5 → (words[n]? == some wd) = f n) : (ns.any fun n => words[n]? == some wd) = ns.any f := by
  rw [Bool.eq_iff_iff, List.any_eq_true, List.any_eq_true]
  constructor
  · rintro ⟨n, h1, h2⟩
    exact ⟨n, h1, by rw [← hf n (h n h1)]; exact h2⟩
  · rintro ⟨n, h1, h2⟩
    exact ⟨n, h1, by rw [hf n (h n h1)]; exact h2⟩
theorem any_one (ns : List Nat) (k : Nat) : (ns.any fun n => n == k) = decide (k ∈ ns) := by
  rw [Bool.eq_iff_iff, List.any_eq_true, decide_eq_true_iff]
  constructor
  · rintro ⟨n, h1, h2⟩
    rw [← beq_iff_eq.mp h2]; exact h1
  · exact fun h => ⟨k, h, by simp⟩
theorem any_two (ns : List Nat) (k j : Nat) : (ns.any fun n => n == k || n == j) = (decide (k ∈ ns) || decide (j ∈ ns)) := by
  rw [← any_one, ← any_one, Bool.eq_iff_iff, Bool.or_eq_true, List.any_eq_true, List.any_eq_true, List.any_eq_true]
  constructor
  · rintro ⟨n, h1, h2⟩
    rcases Bool.or_eq_true_iff.mp h2 with h | h
    · exact .inl ⟨n, h1, h⟩
    · exact .inr ⟨n, h1, h⟩
  · rintro (⟨n, h1, h⟩ | ⟨n, h1, h⟩)
    · exact ⟨n, h1, by rw [h]; rfl⟩
    · exact ⟨n, h1, by rw [h, Bool.or_true]⟩
theorem dueW_eq {ns : List Nat} (h : ∀ n ∈ ns, n < 5) : dueW ns = dueOf (!decide (0 ∈ ns)) (!decide (1 ∈ ns)) (!decide (2 ∈ ns)) (!decide (3 ∈ ns)) (!decide (4 ∈ ns)) := by
  have e1 := (any_word h (wd := "name") (fun n => n == 0) (by decide +kernel)).trans (any_one ns 0)
  have e2 := (any_word h (wd := "place") (fun n => n == 1 || n == 4) (by decide +kernel)).trans (any_two ns 1 4)
  have e3 := (any_word h (wd := "leaves") (fun n => n == 2) (by decide +kernel)).trans (any_one ns 2)
  have e4 := (any_word h (wd := "takes") (fun n => n == 3) (by decide +kernel)).trans (any_one ns 3)
  unfold dueW dueOf
  simp only [List.find?, e1, e2, e3, e4]
  cases decide (0 ∈ ns) <;> cases decide (1 ∈ ns) <;> cases decide (2 ∈ ns) <;> cases decide (3 ∈ ns) <;> cases decide (4 ∈ ns) <;> rfl
theorem dueW_lone {ns : List Nat} (h : ∀ n ∈ ns, n < 5) : dueW (ns.filter fun n => decide (n < 4)) = dueOf (!decide (0 ∈ ns)) (!decide (1 ∈ ns)) (!decide (2 ∈ ns)) (!decide (3 ∈ ns)) (!decide (1 ∈ ns)) := by
  rw [dueW_eq fun n hn => h n (List.mem_filter.mp hn).1]
  have m : ∀ k, k < 4 → decide (k ∈ ns.filter fun n => decide (n < 4)) = decide (k ∈ ns) := fun k hk => by
    rw [Bool.eq_iff_iff, decide_eq_true_iff, decide_eq_true_iff, List.mem_filter]
    exact ⟨fun z => z.1, fun z => ⟨z, decide_eq_true hk⟩⟩
  have m4 : decide (4 ∈ ns.filter fun n => decide (n < 4)) = false := decide_eq_false fun z => by
    have := of_decide_eq_true (List.mem_filter.mp z).2
    omega
  rw [m 0 (by decide), m 1 (by decide), m 2 (by decide), m 3 (by decide), m4]
  unfold dueOf
  cases decide (0 ∈ ns) <;> cases decide (1 ∈ ns) <;> rfl
def optD : Option Str → PyData
  | none => .none
  | some z => .str z
theorem dp_opt {K : PySem.W.Frag} {H : L2.Hp} : ∀ o : Option Str, L2.Dp K H (optV o) (optD o)
  | none => .non
  | some z => .str z
theorem due_ok (a b c d e : Bool) : PyData.canLay0 (optD (dueOf a b c d e)) = true := by
  cases a <;> cases b <;> cases c <;> cases d <;> cases e <;> decide +kernel
theorem shaped4 {x y : Option Str} (hx : (optD x).canLay0 = true) (hy : (optD y).canLay0 = true) : SeqAt.shaped (.list [optD x, optD x, optD y, optD y]) = true := by
  have h1 : PyData.canLay0 (.list [optD x, optD x, optD y, optD y]) = true := by
    show ((optD x).canLay0 && ((optD x).canLay0 && ((optD y).canLay0 && ((optD y).canLay0 && true)))) = true
    rw [hx, hy]; rfl
  unfold SeqAt.shaped
  rw [h1, Bool.true_and]
  cases x <;> cases y <;> rfl
end Ol

namespace Ol
open PySem PySem.Spec PyProof.Rows L2
theorem op_cmpOK {X : Cx} {K : PySem.W.Frag} {CX : CXT} {k : Nat} {C f : Addr} {fd : FuncData} {ps : List Str} {sp : Sp} {E : XK} {op : CmpOp} (h : X.K = K) (hop : ∀ a b, compareOp op a b = richCompare op a b) (R : CmpOf K C op f) (F : FnOk X.prog X.w K X.mg X.base CX k f fd ps sp) (hr : Room k X.A) (hb : L2.Binds K fd ps []) (hx : Passes CX X E) :
    OpR X (compareOp op) (rCmpO K C sp E) := by subst h; exact op_cmpO hop R F hr hb hx
/-! ### trips as they stand -/
theorem let_lt {c : Nat} (h : isLet c = true) : c < 0x110000 := by
  unfold isLet at h
  rw [StrLaws.found_one] at h
  have m : c ∈ letters.cps.toList := by simpa using h
  have all : ∀ d ∈ letters.cps.toList, d < 0x110000 := by decide +kernel
  exact all c m
theorem name_ok {z : Str} (h : isName z = true) : PyData.strOk z = true ∧ z.length ≤ 8 := by
  unfold isName at h
  rw [Bool.and_eq_true, decide_eq_true_eq] at h
  refine ⟨?_, h.1.2⟩
  unfold PyData.strOk
  rw [Array.all_eq_true']
  intro c hc
  exact decide_eq_true (let_lt (List.all_eq_true.mp h.2 c (by simpa using hc)))
/-- right parts -/
structure TripOk (n s : Str) (l t : Int) (g : Str) : Prop where
  n : isName n = true
  s : isName s = true
  g : isName g = true
  l : 0 ≤ l ∧ l ≤ 1000000000000
  t : 1 ≤ t ∧ t ≤ 1000000000000
def TripAt (H : Hp) (a C : Addr) (n s : Str) (l t : Int) (g : Str) : Prop := TripOk n s l t g ∧ ∃ dx, H a = some (.ins C dx (tripFs (.str n) (.str s) (.int l) (.int t) (.str g)))
theorem TripAt.same {H H' : Hp} {a C : Addr} {n s g : Str} {l t : Int} (x : TripAt H a C n s l t g) (e : Same H H') : TripAt H' a C n s l t g := let ⟨o, dx, h⟩ := x; ⟨o, dx, e _ _ h⟩
theorem TripAt.go {H H' : Hp} {p a C : Addr} {n s g : Str} {l t : Int} {m : Nat} (x : TripAt H a C n s l t g) (P : Pen p H m) (e : Go p H H') : TripAt H' a C n s l t g := let ⟨o, dx, h⟩ := x; ⟨o, dx, ((P.ins h).go e).at_⟩
theorem eqv_trip (s g s' g' : Str) (l t l' t' : Int) : PyData.eqv (.tuple [.str s, .int l, .int t, .str g]) (.tuple [.str s', .int l', .int t', .str g']) = decide (s = s' ∧ l = l' ∧ t = t' ∧ g = g') := by
  simp only [PyData.eqv, PyData.eqvAll, Bool.and_true]
  by_cases h1 : s = s' <;> by_cases h2 : l = l' <;> by_cases h3 : t = t' <;> by_cases h4 : g = g' <;> simp [h1, h2, h3, h4]
theorem shaped_trip {s g : Str} {l t : Int} (h1 : PyData.strOk s = true) (h2 : PyData.strOk g = true) : SeqAt.shaped (.tuple [.str s, .int l, .int t, .str g]) = true := by
  show ((PyData.strOk s && (true && (true && (PyData.strOk g && true)))) && decide _) = true
  rw [h1, h2]
  rfl
structure TripW (K : PySem.W.Frag) (C : Addr) (wd : Str) : Prop where
  tc : TripC K C
  is : IsC K C
  con : ∃ u, Con K C "WORD" (.str wd) u
def spTripEq (K : PySem.W.Frag) (TR : Addr) : Sp := fun vs H Q _ => ∃ (a C : Addr) (y : V) (n s g wd : Str) (l t : Int), vs = [.ref a, y] ∧ TripAt H a C n s l t g ∧ TripW K C wd ∧
  ((∃ (b C' : Addr) (n' s' g' wd' : Str) (l' t' : Int), y = .ref b ∧ TripAt H b C' n' s' l' t' g' ∧ TripW K C' wd' ∧ PySem.W.kitOne K (.ref C') (.ref TR) = some true ∧ ∀ H', Same H H' → Q (.bl (decide (wd = wd' ∧ n = n' ∧ s = s' ∧ l = l' ∧ t = t' ∧ g = g'))) H') ∨
    ∃ ty, TyX K H y ty ∧ PySem.W.kitOne K ty (.ref TR) = some false ∧ ∀ H', Same H H' → Q (.bl false) H')
theorem t_con {K : PySem.W.Frag} {σ : L2.St} {H : Hp} {Q : VK} {ta : TE} {f : Str} (h : ta σ H fun x H1 => ∃ a C dx fs v u, x = .ref a ∧ H1 a = some (.ins C dx fs) ∧ Cls K C ∧ Con K C f v u ∧ fs.lookup f = none ∧ Q v H1) : tCon K ta f σ H Q := h
section
variable {K : PySem.W.Frag} {H : Hp} {a C : Addr} {n s g wd : Str} {l t : Int} {P : V → Prop}
theorem x_name (w : TripC K C) (x : TripAt H a C n s l t g) (q : P (.str n)) : ∃ a' C' dx fs v, V.ref a = .ref a' ∧ H a' = some (.ins C' dx fs) ∧ Cls K C' ∧ NoAttr K C' "name" ∧ fs.lookup ("name" : Str) = some v ∧ P v := let ⟨_, dx, h⟩ := x; ⟨a, C, dx, _, _, rfl, h, w.cl, w.name, rfl, q⟩
theorem x_start (w : TripC K C) (x : TripAt H a C n s l t g) (q : P (.str s)) : ∃ a' C' dx fs v, V.ref a = .ref a' ∧ H a' = some (.ins C' dx fs) ∧ Cls K C' ∧ NoAttr K C' "start" ∧ fs.lookup ("start" : Str) = some v ∧ P v := let ⟨_, dx, h⟩ := x; ⟨a, C, dx, _, _, rfl, h, w.cl, w.start, rfl, q⟩
theorem x_leaves (w : TripC K C) (x : TripAt H a C n s l t g) (q : P (.int l)) : ∃ a' C' dx fs v, V.ref a = .ref a' ∧ H a' = some (.ins C' dx fs) ∧ Cls K C' ∧ NoAttr K C' "leaves" ∧ fs.lookup ("leaves" : Str) = some v ∧ P v := let ⟨_, dx, h⟩ := x; ⟨a, C, dx, _, _, rfl, h, w.cl, w.leaves, rfl, q⟩
theorem x_takes (w : TripC K C) (x : TripAt H a C n s l t g) (q : P (.int t)) : ∃ a' C' dx fs v, V.ref a = .ref a' ∧ H a' = some (.ins C' dx fs) ∧ Cls K C' ∧ NoAttr K C' "takes" ∧ fs.lookup ("takes" : Str) = some v ∧ P v := let ⟨_, dx, h⟩ := x; ⟨a, C, dx, _, _, rfl, h, w.cl, w.takes, rfl, q⟩
theorem x_goal (w : TripC K C) (x : TripAt H a C n s l t g) (q : P (.str g)) : ∃ a' C' dx fs v, V.ref a = .ref a' ∧ H a' = some (.ins C' dx fs) ∧ Cls K C' ∧ NoAttr K C' "goal" ∧ fs.lookup ("goal" : Str) = some v ∧ P v := let ⟨_, dx, h⟩ := x; ⟨a, C, dx, _, _, rfl, h, w.cl, w.goal, rfl, q⟩
theorem x_word (w : TripW K C wd) (x : TripAt H a C n s l t g) (q : P (.str wd)) : ∃ a' C' dx fs v u, V.ref a = .ref a' ∧ H a' = some (.ins C' dx fs) ∧ Cls K C' ∧ Con K C' "WORD" v u ∧ fs.lookup ("WORD" : Str) = none ∧ P v := let ⟨_, dx, h⟩ := x; let ⟨u, c⟩ := w.con; ⟨a, C, dx, _, _, u, rfl, h, w.tc.cl, c, rfl, q⟩
end
def spTripStr (K : PySem.W.Frag) : Sp := fun vs H Q _ => ∃ (a C : Addr) (n s g wd : Str) (l t : Int), vs = [.ref a] ∧ TripAt H a C n s l t g ∧ TripW K C wd ∧ wd.length ≤ 8 ∧ Q (.str (Txt.join " " [wd, n, s, toString l, toString t])) H
def spRunStr (K : PySem.W.Frag) : Sp := fun vs H Q _ => ∃ (a C : Addr) (n s g wd : Str) (l t : Int), vs = [.ref a] ∧ TripAt H a C n s l t g ∧ TripW K C wd ∧ wd.length ≤ 8 ∧ Q (.str (Txt.join " " [wd, n, s, toString l, toString t, g])) H
section
variable {σ : L2.St} {H : Hp} {t te : TE} {ts : List TE} {acc : Str} {Q : Str → Hp → Prop} {R : VK}
theorem t_js (h : t σ H fun x H1 => ∃ y : Str, x = .str y ∧ (acc ++ y).length ≤ sizeLine ∧ tJs ts (acc ++ y) σ H1 Q) : tJs (t :: ts) acc σ H Q := h
theorem t_js0 (h : Q acc H) : tJs [] acc σ H Q := h
theorem t_fmt (h : te σ H fun x H1 => (∃ y : Str, x = .str y ∧ y.length ≤ sizeLine ∧ R (.str y) H1) ∨ ∃ i : Int, x = .int i ∧ i.natAbs.log2 < 1920 ∧ R (.str (toString i)) H1) : tFmt te σ H R := h
theorem js_s {y : Str} {n m : Nat} (ha : acc.length ≤ n) (hy : y.length ≤ m) (hm : n + m ≤ 1000) (h : (acc ++ y).length ≤ n + m → tJs ts (acc ++ y) σ H Q) : ∃ z : Str, V.str y = .str z ∧ (acc ++ z).length ≤ sizeLine ∧ tJs ts (acc ++ z) σ H Q := by
  have e : (acc ++ y).length ≤ n + m := by rw [Str.length_append]; omega
  exact ⟨y, rfl, Nat.le_trans e (Nat.le_trans hm (by decide)), h e⟩
theorem fmt_s {y : Str} (hy : y.length ≤ 1000) (h : R (.str y) H) : (∃ z : Str, V.str y = .str z ∧ z.length ≤ sizeLine ∧ R (.str z) H) ∨ ∃ i : Int, V.str y = .int i ∧ i.natAbs.log2 < 1920 ∧ R (.str (toString i)) H := .inl ⟨y, rfl, Nat.le_trans hy (by decide), h⟩
theorem fmt_i {i : Int} (hi : i.natAbs ≤ 1000000000000) (h : R (.str (toString i)) H) : (∃ z : Str, V.int i = .str z ∧ z.length ≤ sizeLine ∧ R (.str z) H) ∨ ∃ j : Int, V.int i = .int j ∧ j.natAbs.log2 < 1920 ∧ R (.str (toString j)) H :=
  .inr ⟨i, rfl, Nat.lt_of_lt_of_le (PySem.Flt.log2_lt_of (k := 41) (by decide) (Nat.lt_of_le_of_lt hi (by decide))) (by decide), h⟩
end
theorem num_log {i : Int} (hi : i.natAbs ≤ 1000000000000) : i.natAbs.log2 < 1920 := Nat.lt_of_lt_of_le (PySem.Flt.log2_lt_of (k := 41) (by decide) (Nat.lt_of_le_of_lt hi (by decide))) (by decide)
theorem num_len {i : Int} (hi : i.natAbs ≤ 1000000000000) : (Str.ofString (toString i)).length ≤ 14 := by
  have h1 := int_text_length_le10 (a := i) (k := 13) (by decide) (Nat.lt_of_le_of_lt hi (by decide))
  rw [PyProof.Rows.ofString_len]
  exact h1
theorem join5 (a b c d e : Str) : Txt.join " " [a, b, c, d, e] = Str.empty ++ a ++ " " ++ b ++ " " ++ c ++ " " ++ d ++ " " ++ e := by
  rw [show ∀ l, Txt.join " " l = Str.join " " l from fun l => TL.join_eq " " l, Str.empty_append]
  simp only [Str.join, Str.append_assoc]
theorem join6 (a b c d e f : Str) : Txt.join " " [a, b, c, d, e, f] = Str.empty ++ a ++ " " ++ b ++ " " ++ c ++ " " ++ d ++ " " ++ e ++ " " ++ f := by
  rw [show ∀ l, Txt.join " " l = Str.join " " l from fun l => TL.join_eq " " l, Str.empty_append]
  simp only [Str.join, Str.append_assoc]
theorem Sh.name {z : Str} (h : isName z = true) : Sh (.str z) 100 0 := by
  obtain ⟨h1, h2⟩ := name_ok h
  refine ⟨rfl, rfl, ?_, Nat.le_refl _⟩
  have hx : ∀ c ∈ z.cps.toList, c < 16 ^ 8 := fun c hc => by
    unfold PyData.strOk at h1
    rw [Array.all_eq_true'] at h1
    have := of_decide_eq_true (h1 c (by simpa using hc))
    omega
  have := StrLaws.reprText_len z hx
  show (reprText z).length ≤ 100
  omega
theorem sh_parts {n s g : Str} {l t : Int} (o : TripOk n s l t g) : Sh (.list [.str n, .str s, .int l, .int t, .str g]) 1000 1 := by
  refine (Sh.list (n := 100) (k := 0) fun d hd => ?_).le (show 5 * 100 + 2 * 5 + 3 ≤ 1000 by decide) (Nat.le_refl _)
  have hl := o.l
  have ht := o.t
  simp only [List.mem_cons, List.not_mem_nil, or_false] at hd
  rcases hd with rfl | rfl | rfl | rfl | rfl
  · exact Sh.name o.n
  · exact Sh.name o.s
  · exact (Sh.int (by omega)).le (by decide) (by decide)
  · exact (Sh.int (by omega)).le (by decide) (by decide)
  · exact Sh.name o.g
section
variable {K : PySem.W.Frag} {H : Hp} {C BT : Addr} {n s g : Str} {l t : Int} {R : Addr → Hp → Prop} {E : XK}
theorem mk_tripR (o : TripOk n s l t g) (tc : TripC K C) (k : ∀ b H', Same H H' → H b = none → TripAt H' b C n s l t g → R b H') {x dx : Addr} (hx : H x = none) (hd : H dx = none) :
    spTrip K BT [.ref x, .str n, .str s, .int l, .int t, .str g] (upd (upd H dx (.own x)) x (.ins C dx [])) (fun v H2 => v = .non ∧ R x H2) E := by
  have S : Same H (upd (upd H dx (.own x)) x (.ins C dx [])) := fun b o e => by rw [upd_ne (ne_of_none e hx), upd_ne (ne_of_none e hd)]; exact e
  have nl : ∀ z : Str, isName z = true → z.length ≤ 1000 := fun z h => Nat.le_trans (name_ok h).2 (by decide)
  refine ⟨x, C, dx, _, _, _, _, _, true, true, true, true, true, rfl, upd_same, tc, ⟨.inl ⟨n, rfl, nl n o.n, o.n⟩, .inl ⟨s, rfl, nl s o.s, o.s⟩, .inl ⟨l, rfl, decide_eq_true o.l⟩, .inl ⟨t, rfl, decide_eq_true o.t⟩, .inl ⟨g, rfl, nl g o.g, o.g⟩⟩, fun w hw => ?_, fun _ H' S' => ⟨rfl, k x _ (fun b o e => ?_) hx ⟨o, dx, upd_same⟩⟩⟩
  · have e : dueOf true true true true true = none := rfl
    rw [e] at hw
    cases hw
  · rw [upd_ne (ne_of_none e hx)]
    exact (S.trans S') b o e
theorem mk_run (o : TripOk n s l t g) (tc : TripC K C) (k : ∀ b H', Same H H' → H b = none → TripAt H' b C n s l t g → R b H') : ∀ x dx, H x = none → H dx = none → dx ≠ x →
    spRun K C BT [.ref x, .str n, .str s, .int l, .int t, .str g] (upd (upd H dx (.own x)) x (.ins C dx [])) (fun v H2 => v = .non ∧ R x H2) E := fun x dx hx hd _ => ⟨x, dx, _, _, _, _, _, rfl, upd_same, mk_tripR o tc k hx hd⟩
theorem mk_stay (o : TripOk n s l t s) (tc : TripC K C) (k : ∀ b H', Same H H' → H b = none → TripAt H' b C n s l t s → R b H') : ∀ x dx, H x = none → H dx = none → dx ≠ x →
    spStay K C BT [.ref x, .str n, .str s, .int l, .int t] (upd (upd H dx (.own x)) x (.ins C dx [])) (fun v H2 => v = .non ∧ R x H2) E := fun x dx hx hd _ => ⟨x, dx, _, _, _, _, rfl, upd_same, mk_tripR o tc k hx hd⟩
end
def tripB (wd wd' n n' s s' g g' : Str) (l l' t t' : Int) : Bool := decide (wd = wd' ∧ n = n' ∧ s = s' ∧ l = l' ∧ t = t' ∧ g = g')
section
variable {K : PySem.W.Frag} {H : Hp} {Q : VK} {E : XK} {a b C C' TR : Addr} {n n' s s' g g' wd wd' : Str} {l l' t t' : Int} {y : V} {ty : Value}
theorem r_teq (ta : TripAt H a C n s l t g) (tw : TripW K C wd) (tb : TripAt H b C' n' s' l' t' g') (tw' : TripW K C' wd') (hk : PySem.W.kitOne K (.ref C') (.ref TR) = some true) (nf : PySem.W.notFirst K C (.ref C') = true) (q : ∀ H', Same H H' → Q (.bl (tripB wd wd' n n' s s' g g' l l' t t')) H') :
    rCmpO K C (spTripEq K TR) E (.ref a) (.ref b) H Q := by
  obtain ⟨_, dx, ha⟩ := id ta
  obtain ⟨_, dy, hb⟩ := id tb
  exact ⟨a, dx, _, _, rfl, ha, tw'.is.ty hb, nf, a, C, _, n, s, g, wd, l, t, rfl, ta, tw, .inl ⟨b, C', n', s', g', wd', l', t', rfl, tb, tw', hk, q⟩⟩
theorem r_tne (ta : TripAt H a C n s l t g) (tw : TripW K C wd) (tb : TripAt H b C' n' s' l' t' g') (tw' : TripW K C' wd') (hk : PySem.W.kitOne K (.ref C') (.ref TR) = some true) (nf : PySem.W.notFirst K C (.ref C') = true) (q : ∀ H', Same H H' → Q (.bl (!tripB wd wd' n n' s s' g g' l l' t t')) H') :
    rNeO K C (spTripEq K TR) E (.ref a) (.ref b) H Q := by
  obtain ⟨_, dx, ha⟩ := id ta
  obtain ⟨_, dy, hb⟩ := id tb
  exact ⟨a, dx, _, _, rfl, ha, tw'.is.ty hb, nf, a, C, _, n, s, g, wd, l, t, rfl, ta, tw, .inl ⟨b, C', n', s', g', wd', l', t', rfl, tb, tw', hk, fun H' S => ⟨_, rfl, q H' S⟩⟩⟩
theorem r_teqN (ta : TripAt H a C n s l t g) (tw : TripW K C wd) (hty : TyX K H y ty) (hk : PySem.W.kitOne K ty (.ref TR) = some false) (nf : PySem.W.notFirst K C ty = true) (q : ∀ H', Same H H' → Q (.bl false) H') : rCmpO K C (spTripEq K TR) E (.ref a) y H Q := by
  obtain ⟨_, dx, ha⟩ := id ta
  exact ⟨a, dx, _, _, rfl, ha, hty, nf, a, C, _, n, s, g, wd, l, t, rfl, ta, tw, .inr ⟨ty, hty, hk, q⟩⟩
theorem tripB_self : tripB wd wd n n s s g g l l t t = true := decide_eq_true ⟨rfl, rfl, rfl, rfl, rfl, rfl⟩
theorem nf_of {t : Value} (h : PySem.W.subIn K t (.ref C) = some false) : PySem.W.notFirst K C t = true := by unfold PySem.W.notFirst; rw [h]; simp
end
theorem t_m1 {r : V → List V → Hp → VK → Prop} {to te : TE} {σ : L2.St} {H : Hp} {Q : VK} (h : to σ H fun x H1 => (∃ a, x = .str a) ∧ te σ H1 fun y H2 => r x [y] H2 Q) : tM1 r to te σ H Q := h
end Ol

namespace Ol
open PySem PySem.Spec PyProof.Rows L2
/-! ### deep values: what stands at addresses that are written no more; loc: an object that may be written -/
inductive D where
  | non | bl (b : Bool) | int (i : Int) | str (z : Str)
  | lst (xs : List D) | tup (xs : List D) | dct (kvs : List (Key × D))
  | ins (c : Nat) (fs : List (Str × D)) | err (c : Nat) (fs : List (Str × D))
  | cls (c : Nat) | ty (n : String) | loc (i : Nat) | scr (ns : List Int)
inductive O where
  | off | lst (xs : List D) | dct (kvs : List (Key × D)) | ins (c : Nat) (fs : List (Str × D))
def O.on : O → Bool
  | .off => false
  | _ => true
abbrev Store := List O
inductive Res (α : Type) where
  | ok (a : α) (S : Store) | er (c : Nat) (fs : List (Str × D)) (S : Store) | bad
abbrev M (α : Type) := Store → Res α
namespace M
variable {α β : Type}
def ret (a : α) : M α := fun S => .ok a S
def bnd (m : M α) (k : α → M β) : M β := fun S => match m S with
  | .ok a S' => k a S'
  | .er c fs S' => .er c fs S'
  | .bad => .bad
def bad : M α := fun _ => .bad
def opt : Option α → M α
  | some a => ret a
  | none => bad
end M
/-- the written part, the classes by number, the tables of lambdas -/
structure Wd where
  K : PySem.W.Frag
  cm : Nat → Addr
  T : List (Addr × Str)
/-- a situation: where the objects that may be written stand, what they hold, the heap -/
structure Sit where
  mu : List Addr
  S : Store
  H : Hp
  hd : List Addr
def Sit.own (z : Sit) (a : Addr) : Prop := ∃ (i : Nat) (o : O), z.mu[i]? = some a ∧ z.S[i]? = some o ∧ o.on = true
/-- not to be seen as a thing that is written no more -/
def Sit.live (z : Sit) (a : Addr) : Prop := z.own a ∨ a ∈ z.hd
def WrL (K : PySem.W.Frag) (a : Addr) (xs : List V) : Prop := ∃ (o : Obj) (its : Array Value) (n : Nat), K.lookup a = some o ∧ o.cls = .type "list" ∧ o.dict = none ∧ o.data = .seq its n ∧ its.size ≤ sizeLine ∧ Vals xs its.toList
def WrT (K : PySem.W.Frag) (a : Addr) (xs : List V) : Prop := ∃ (o : Obj) (its : Array Value) (n : Nat), K.lookup a = some o ∧ o.cls = .type "tuple" ∧ o.data = .seq its n ∧ its.size ≤ sizeLine ∧ Vals xs its.toList
mutual
def Rep (w : Wd) (z : Sit) : D → V → Prop
  | .non, v => v = .non
  | .bl b, v => v = .bl b
  | .int i, v => v = .int i
  | .str s, v => v = .str s
  | .lst ds, v => ∃ a vs, v = .ref a ∧ ¬ z.live a ∧ z.H a = some (.lst vs) ∧ RepL w z ds vs
  | .tup ds, v => ∃ a vs, v = .ref a ∧ ((¬ z.live a ∧ Rd z.H a (.tup vs)) ∨ WrT w.K a vs) ∧ RepL w z ds vs
  | .dct kvs, v => ∃ a us, v = .ref a ∧ ¬ z.live a ∧ z.H a = some (.dK us) ∧ RepK w z kvs us
  | .ins c fs, v => ∃ a dx us, v = .ref a ∧ ¬ z.live a ∧ z.H a = some (.ins (w.cm c) dx us) ∧ RepF w z fs us
  | .err c fs, v => ∃ a dx us, v = .ref a ∧ ¬ z.live a ∧ z.H a = some (exv a (w.cm c) (some dx)) ∧ ¬ z.live dx ∧ z.H dx = some (.xd us) ∧ RepF w z fs us
  | .cls c, v => v = .ref (w.cm c)
  | .ty n, v => v = .ty n
  | .loc i, v => ∃ a, v = .ref a ∧ z.mu[i]? = some a
  | .scr ns, v => ∃ a, v = .ref a ∧ ((¬ z.live a ∧ Rd z.H a (.lst (ns.map V.int))) ∨ WrL w.K a (ns.map V.int))
def RepL (w : Wd) (z : Sit) : List D → List V → Prop
  | [], vs => vs = []
  | d :: ds, vs => ∃ v r, vs = v :: r ∧ Rep w z d v ∧ RepL w z ds r
def RepF (w : Wd) (z : Sit) : List (Str × D) → List (Str × V) → Prop
  | [], vs => vs = []
  | (f, d) :: ds, vs => ∃ v r, vs = (f, v) :: r ∧ Rep w z d v ∧ RepF w z ds r
def RepK (w : Wd) (z : Sit) : List (Key × D) → List (Key × V) → Prop
  | [], vs => vs = []
  | (f, d) :: ds, vs => ∃ v r, vs = (f, v) :: r ∧ Rep w z d v ∧ RepK w z ds r
end
/-- what is seen stays -/
structure Vx (z z' : Sit) : Prop where
  pre : ∀ (i : Nat) (a : Addr), z.mu[i]? = some a → z'.mu[i]? = some a
  keep : ∀ b o, ¬ z.live b → z.H b = some o → (∀ ps, o ≠ .tbl ps) → z'.H b = some o ∧ ¬ z'.live b
/-- all that may not be written stays -/
structure Ex (z z' : Sit) : Prop where
  pre : ∀ (i : Nat) (a : Addr), z.mu[i]? = some a → z'.mu[i]? = some a
  hd : z'.hd = z.hd
  keep : ∀ b o, ¬ z.own b → z.H b = some o → (∀ ps, o ≠ .tbl ps) → z'.H b = some o ∧ ¬ z'.own b
theorem Ex.vx {z z' : Sit} (x : Ex z z') : Vx z z' := ⟨x.pre, fun b o n h t => by
  obtain ⟨h1, h2⟩ := x.keep b o (fun q => n (.inl q)) h t
  refine ⟨h1, fun q => ?_⟩
  rcases q with q | q
  · exact h2 q
  · rw [x.hd] at q
    exact n (.inr q)⟩
theorem Ex.refl (z : Sit) : Ex z z := ⟨fun _ _ h => h, rfl, fun _ _ n h _ => ⟨h, n⟩⟩
theorem Ex.trans {a b c : Sit} (x : Ex a b) (y : Ex b c) : Ex a c := ⟨fun i q h => y.pre i q (x.pre i q h), y.hd.trans x.hd, fun p o n h t => let ⟨h1, n1⟩ := x.keep p o n h t; y.keep p o n1 h1 t⟩
theorem Vx.trans {a b c : Sit} (x : Vx a b) (y : Vx b c) : Vx a c := ⟨fun i q h => y.pre i q (x.pre i q h), fun p o n h t => let ⟨h1, n1⟩ := x.keep p o n h t; y.keep p o n1 h1 t⟩
theorem Vx.rd {z z' : Sit} {a : Addr} {u : HO} (x : Vx z z') (n : ¬ z.live a) (h : Rd z.H a u) (t : ∀ ps, u ≠ .tbl ps) : ¬ z'.live a ∧ Rd z'.H a u := by
  rcases h with h | ⟨o, h⟩
  · exact ⟨(x.keep _ _ n h t).2, .inl (x.keep _ _ n h t).1⟩
  · have := x.keep _ _ n h (fun _ e => by cases e)
    exact ⟨this.2, .inr ⟨o, this.1⟩⟩
section
variable {w : Wd} {z z' : Sit}
mutual
theorem Rep.mono (x : Vx z z') : ∀ {d : D} {v : V}, Rep w z d v → Rep w z' d v
  | .non, _, h => by simpa [Rep] using h
  | .bl _, _, h => by simpa [Rep] using h
  | .int _, _, h => by simpa [Rep] using h
  | .str _, _, h => by simpa [Rep] using h
  | .lst ds, v, h => by
    rw [Rep] at h ⊢
    obtain ⟨a, vs, e, n, h, r⟩ := h
    obtain ⟨h1, h2⟩ := x.keep _ _ n h (fun _ e => by cases e)
    exact ⟨a, vs, e, h2, h1, RepL.mono x r⟩
  | .tup ds, v, h => by
    rw [Rep] at h ⊢
    obtain ⟨a, vs, e, h, r⟩ := h
    refine ⟨a, vs, e, ?_, RepL.mono x r⟩
    rcases h with ⟨n, h⟩ | h
    · exact .inl (x.rd n h fun _ e => by cases e)
    · exact .inr h
  | .dct kvs, v, h => by
    rw [Rep] at h ⊢
    obtain ⟨a, us, e, n, h, r⟩ := h
    obtain ⟨h1, h2⟩ := x.keep _ _ n h (fun _ e => by cases e)
    exact ⟨a, us, e, h2, h1, RepK.mono x r⟩
  | .ins c fs, v, h => by
    rw [Rep] at h ⊢
    obtain ⟨a, dx, us, e, n, h, r⟩ := h
    obtain ⟨h1, h2⟩ := x.keep _ _ n h (fun _ e => by cases e)
    exact ⟨a, dx, us, e, h2, h1, RepF.mono x r⟩
  | .err c fs, v, h => by
    rw [Rep] at h ⊢
    obtain ⟨a, dx, us, e, n, h, nd, hd, r⟩ := h
    obtain ⟨h1, h2⟩ := x.keep _ _ n h (fun _ e => by unfold exv at e; cases e)
    obtain ⟨h3, h4⟩ := x.keep _ _ nd hd (fun _ e => by cases e)
    exact ⟨a, dx, us, e, h2, h1, h4, h3, RepF.mono x r⟩
  | .cls _, _, h => by simpa [Rep] using h
  | .ty _, _, h => by simpa [Rep] using h
  | .loc i, v, h => by
    rw [Rep] at h ⊢
    obtain ⟨a, e, h⟩ := h
    exact ⟨a, e, x.pre _ _ h⟩
  | .scr ns, v, h => by
    rw [Rep] at h ⊢
    obtain ⟨a, e, h⟩ := h
    refine ⟨a, e, ?_⟩
    rcases h with ⟨n, h⟩ | h
    · exact .inl (x.rd n h fun _ e => by cases e)
    · exact .inr h
theorem RepL.mono (x : Vx z z') : ∀ {ds : List D} {vs : List V}, RepL w z ds vs → RepL w z' ds vs
  | [], _, h => by simpa [RepL] using h
  | d :: ds, vs, h => by
    rw [RepL] at h ⊢
    obtain ⟨v, r, e, h1, h2⟩ := h
    exact ⟨v, r, e, Rep.mono x h1, RepL.mono x h2⟩
theorem RepF.mono (x : Vx z z') : ∀ {ds : List (Str × D)} {vs : List (Str × V)}, RepF w z ds vs → RepF w z' ds vs
  | [], _, h => by simpa [RepF] using h
  | (f, d) :: ds, vs, h => by
    rw [RepF] at h ⊢
    obtain ⟨v, r, e, h1, h2⟩ := h
    exact ⟨v, r, e, Rep.mono x h1, RepF.mono x h2⟩
theorem RepK.mono (x : Vx z z') : ∀ {ds : List (Key × D)} {vs : List (Key × V)}, RepK w z ds vs → RepK w z' ds vs
  | [], _, h => by simpa [RepK] using h
  | (f, d) :: ds, vs, h => by
    rw [RepK] at h ⊢
    obtain ⟨v, r, e, h1, h2⟩ := h
    exact ⟨v, r, e, Rep.mono x h1, RepK.mono x h2⟩
end
end
/-! ### what the objects that may be written hold -/
def OAt (w : Wd) (z : Sit) (a : Addr) : O → Prop
  | .off => True
  | .lst ds => ∃ vs, z.H a = some (.lst vs) ∧ RepL w z ds vs
  | .dct kvs => ∃ us, z.H a = some (.dK us) ∧ RepK w z kvs us
  | .ins c fs => ∃ dx us, z.H a = some (.ins (w.cm c) dx us) ∧ RepF w z fs us
structure Good (w : Wd) (z : Sit) : Prop where
  len : z.mu.length = z.S.length
  nd : z.mu.Nodup
  at_ : ∀ (i : Nat) (a : Addr) (o : O), z.mu[i]? = some a → z.S[i]? = some o → OAt w z a o
  there : ∀ a, a ∈ z.mu → z.H a ≠ none
  hid : ∀ a, a ∈ z.hd → z.H a ≠ none
  dis : ∀ a, a ∈ z.mu → a ∉ z.hd
  tab : LamX.Tabs w.T z.H
  nt : ∀ (a : Addr) (ps : Array Value), (a ∈ z.mu ∨ a ∈ z.hd) → z.H a ≠ some (.tbl ps)
section
variable {w : Wd} {z z' : Sit} {a p : Addr} {o : HO} {ob : O}
theorem Sit.own.mem (h : z.own a) : a ∈ z.mu := by
  obtain ⟨i, o, h, _⟩ := h
  exact List.mem_of_getElem? h
theorem Good.fresh (g : Good w z) (h : z.H p = none) : ¬ z.live p := fun l => by
  rcases l with l | l
  · exact g.there p l.mem h
  · exact g.hid p l h
theorem OAt.mono (x : OAt w z a ob) (e : Vx z z') (h : z'.H a = z.H a) : OAt w z' a ob := by
  cases ob with
  | off => trivial
  | lst ds => obtain ⟨vs, h1, h2⟩ := x; exact ⟨vs, h ▸ h1, h2.mono e⟩
  | dct kvs => obtain ⟨vs, h1, h2⟩ := x; exact ⟨vs, h ▸ h1, h2.mono e⟩
  | ins c fs => obtain ⟨dx, vs, h1, h2⟩ := x; exact ⟨dx, vs, h ▸ h1, h2.mono e⟩
theorem same_ne {H H' : Hp} (s : Same H H') (h : H a ≠ none) : H' a ≠ none := by
  cases e : H a with
  | none => exact absurd e h
  | some u => rw [s _ _ e]; simp
theorem same_eq {H H' : Hp} (s : Same H H') (h : H a ≠ none) : H' a = H a := by
  cases e : H a with
  | none => exact absurd e h
  | some u => exact s _ _ e
/-- more stands in the heap -/
def Sit.on (z : Sit) (H : Hp) : Sit := { z with H := H }
theorem Ex.more {H' : Hp} (s : Same z.H H') : Ex z (z.on H') := ⟨fun _ _ h => h, rfl, fun b o n h _ => ⟨s b o h, n⟩⟩
theorem Good.more {H' : Hp} (g : Good w z) (s : Same z.H H') : Good w (z.on H') :=
  ⟨g.len, g.nd, fun i a o h1 h2 => (g.at_ i a o h1 h2).mono (Ex.more s).vx (same_eq s (g.there a (List.mem_of_getElem? h1))), fun a h => same_ne s (g.there a h), fun a h => same_ne s (g.hid a h), g.dis, g.tab.ext s, fun a ps h => by
    rw [show (z.on H').H a = z.H a from same_eq s (h.elim (g.there a) (g.hid a))]
    exact g.nt a ps h⟩
/-- a new object that may be written -/
def Sit.add (z : Sit) (p : Addr) (ob : O) (H : Hp) : Sit := ⟨z.mu ++ [p], z.S ++ [ob], H, z.hd⟩
theorem Sit.add_own {H : Hp} (hl : z.mu.length = z.S.length) (h : (z.add p ob H).own a) : z.own a ∨ a = p := by
  obtain ⟨i, o, h1, h2, h3⟩ := h
  by_cases hi : i < z.mu.length
  · refine .inl ⟨i, o, ?_, ?_, h3⟩
    · exact (List.getElem?_append_left hi).symm.trans h1
    · exact (List.getElem?_append_left (by omega)).symm.trans h2
  · have e : (z.mu ++ [p])[i]? = some a := h1
    rw [List.getElem?_append_right (by omega)] at e
    have := List.mem_of_getElem? e
    exact .inr (by simpa using this)
theorem Ex.add {H' : Hp} (g : Good w z) (hp : z.H p = none) (s : Same z.H H') : Ex z (z.add p ob H') := by
  refine ⟨fun i a h => ?_, rfl, fun b o n h _ => ⟨s b o h, fun l => ?_⟩⟩
  · show (z.mu ++ [p])[i]? = some a
    rw [List.getElem?_append_left (by have := List.getElem?_eq_some_iff.mp h; exact this.1)]
    exact h
  · rcases Sit.add_own g.len l with l | rfl
    · exact n l
    · rw [hp] at h; cases h
theorem Good.add {H' : Hp} (g : Good w z) (hp : z.H p = none) (s : Same z.H H') (new : OAt w (z.add p ob H') p ob) (hn : H' p ≠ none) (on : ob.on = true := by rfl) : Good w (z.add p ob H') := by
  have pn : p ∉ z.mu := fun h => g.there p h hp
  refine ⟨?_, ?_, fun i a o h1 h2 => ?_, fun a h => ?_, fun a h => same_ne s (g.hid a h), fun a h => ?_, g.tab.ext s, fun a ps h => ?nt⟩
  case nt =>
    have old : (a ∈ z.mu ∨ a ∈ z.hd) → H' a ≠ some (.tbl ps) := fun h => by
      rw [show H' a = z.H a from same_eq s (h.elim (g.there a) (g.hid a))]
      exact g.nt a ps h
    rcases h with h | h
    · have h' : a ∈ z.mu ++ [p] := h
      rcases List.mem_append.mp h' with h | h
      · exact old (.inl h)
      · cases List.mem_singleton.mp h
        cases ob with
        | off => cases on
        | lst ds => obtain ⟨vs, h1, _⟩ := new; exact fun e => by cases h1.symm.trans e
        | dct kvs => obtain ⟨vs, h1, _⟩ := new; exact fun e => by cases h1.symm.trans e
        | ins c fs => obtain ⟨dx, vs, h1, _⟩ := new; exact fun e => by cases h1.symm.trans e
    · exact old (.inr h)
  · show (z.mu ++ [p]).length = (z.S ++ [ob]).length
    simp [g.len]
  · show (z.mu ++ [p]).Nodup
    rw [List.nodup_append]
    exact ⟨g.nd, by simp, fun a ha b hb => by cases List.mem_singleton.mp hb; exact fun e => pn (e ▸ ha)⟩
  · have h1' : (z.mu ++ [p])[i]? = some a := h1
    have h2' : (z.S ++ [ob])[i]? = some o := h2
    by_cases hi : i < z.mu.length
    · rw [List.getElem?_append_left hi] at h1'
      rw [List.getElem?_append_left (by rw [← g.len]; exact hi)] at h2'
      exact (g.at_ i a o h1' h2').mono (Ex.add g hp s).vx (same_eq s (g.there a (List.mem_of_getElem? h1')))
    · have hi' : i = z.mu.length := by
        have := (List.getElem?_eq_some_iff.mp h1').1
        simp at this
        omega
      subst hi'
      rw [List.getElem?_append_right (Nat.le_refl _), Nat.sub_self] at h1'
      rw [List.getElem?_append_right (by rw [g.len]; exact Nat.le_refl _), ← g.len, Nat.sub_self] at h2'
      cases h1'
      cases h2'
      exact new
  · have h' : a ∈ z.mu ++ [p] := h
    rcases List.mem_append.mp h' with h | h
    · exact same_ne s (g.there a h)
    · cases List.mem_singleton.mp h
      exact hn
  · have h' : a ∈ z.mu ++ [p] := h
    rcases List.mem_append.mp h' with h | h
    · exact g.dis a h
    · cases List.mem_singleton.mp h
      exact fun q => g.hid _ q hp
/-- an object is written -/
def Sit.wr (z : Sit) (i : Nat) (ob : O) (H : Hp) : Sit := ⟨z.mu, z.S.set i ob, H, z.hd⟩
theorem Sit.wr_own {i : Nat} {H : Hp} (h : (z.wr i ob H).own a) : z.own a ∨ (z.mu[i]? = some a ∧ ob.on = true) := by
  obtain ⟨j, o, h1, h2, h3⟩ := h
  have h2' : (z.S.set i ob)[j]? = some o := h2
  by_cases hj : i = j
  · subst hj
    rw [List.getElem?_set_self (by have := (List.getElem?_eq_some_iff.mp h2').1; simpa using this)] at h2'
    cases h2'
    exact .inr ⟨h1, h3⟩
  · rw [List.getElem?_set_ne hj] at h2'
    exact .inl ⟨j, o, h1, h2', h3⟩
def plainO : HO → Prop
  | .lst _ => True
  | .dK _ => True
  | .ins _ _ _ => True
  | _ => False
theorem OAt.plain (x : OAt w z a ob) (h : ob.on = true) : ∃ u, z.H a = some u ∧ plainO u := by
  cases ob with
  | off => cases h
  | lst ds => obtain ⟨vs, h1, _⟩ := x; exact ⟨_, h1, trivial⟩
  | dct kvs => obtain ⟨vs, h1, _⟩ := x; exact ⟨_, h1, trivial⟩
  | ins c fs => obtain ⟨dx, vs, h1, _⟩ := x; exact ⟨_, h1, trivial⟩
theorem tabs_upd {T : List (Addr × Str)} {H : Hp} {u : HO} (t : LamX.Tabs T H) (h : H a = some u) (hu : plainO u) : LamX.Tabs T (upd H a o) := fun q hq => by
  obtain ⟨ps, h1, h2, h3⟩ := t q hq
  have ne : ∀ {b : Addr} {v : HO}, H b = some v → ¬ plainO v → b ≠ a := fun {b v} e n z => by
    rw [z, h] at e
    cases e
    exact n hu
  refine ⟨ps, by rw [upd_ne (ne h1 (fun z => z))]; exact h1, h2, fun pos cv hc => ?_⟩
  obtain ⟨c, e1, e2⟩ := h3 pos cv hc
  exact ⟨c, e1, by rw [upd_ne (ne e2 (fun z => z))]; exact e2⟩
theorem upd_some {H : Hp} {b : Addr} (h : H b ≠ none) : upd H a o b ≠ none := by
  by_cases e : b = a
  · rw [e, upd_same]; simp
  · rw [upd_ne e]; exact h
theorem Ex.wr {i : Nat} {oo : O} (hi : z.mu[i]? = some a) (ho : z.S[i]? = some oo) (on : oo.on = true) : Ex z (z.wr i ob (upd z.H a o)) := by
  refine ⟨fun _ _ h => h, rfl, fun b u n h _ => ⟨?_, fun l => ?_⟩⟩
  · show upd z.H a o b = some u
    rw [upd_ne (fun e : b = a => n (by rw [e]; exact ⟨i, oo, hi, ho, on⟩))]
    exact h
  · rcases Sit.wr_own l with l | ⟨l, _⟩
    · exact n l
    · rw [hi] at l
      cases l
      exact n ⟨i, oo, hi, ho, on⟩
theorem Good.wr {i : Nat} {oo : O} (g : Good w z) (hi : z.mu[i]? = some a) (ho : z.S[i]? = some oo) (on : oo.on = true) (new : OAt w (z.wr i ob (upd z.H a o)) a ob) (on' : ob.on = true := by rfl) : Good w (z.wr i ob (upd z.H a o)) := by
  obtain ⟨u, hu, pu⟩ := (g.at_ i a oo hi ho).plain on
  refine ⟨by show z.mu.length = (z.S.set i ob).length; simp [g.len], g.nd, fun j b q h1 h2 => ?_, fun b h => upd_some (g.there b h), fun b h => upd_some (g.hid b h), g.dis, tabs_upd g.tab hu pu, fun b ps h => ?nt⟩
  case nt =>
    show upd z.H a o b ≠ some (.tbl ps)
    by_cases e : b = a
    · subst e
      obtain ⟨u, hu, pu⟩ := new.plain on'
      intro e
      rw [show upd z.H b o b = some u from hu] at e
      cases e
      exact pu
    · rw [upd_ne e]
      exact g.nt b ps h
  have h2' : (z.S.set i ob)[j]? = some q := h2
  have h1' : z.mu[j]? = some b := h1
  by_cases hj : i = j
  · subst hj
    rw [hi] at h1'
    cases h1'
    rw [List.getElem?_set_self (by have := (List.getElem?_eq_some_iff.mp ho).1; simpa using this)] at h2'
    cases h2'
    exact new
  · rw [List.getElem?_set_ne hj] at h2'
    refine (g.at_ j b q h1' h2').mono (Ex.wr hi ho on).vx ?_
    show upd z.H a o b = z.H b
    rw [upd_ne]
    intro e
    subst e
    have h3 := List.getElem?_eq_some_iff.mp hi
    have h4 := List.getElem?_eq_some_iff.mp h1'
    exact hj ((List.getElem_inj g.nd).mp (h3.2.trans h4.2.symm))
/-- an object is written no more -/
theorem Ex.frz {i : Nat} : Ex z (z.wr i .off z.H) := by
  refine ⟨fun _ _ h => h, rfl, fun b u n h _ => ⟨h, fun l => ?_⟩⟩
  rcases Sit.wr_own l with l | ⟨_, l⟩
  · exact n l
  · cases l
theorem Good.frz {i : Nat} (g : Good w z) : Good w (z.wr i .off z.H) := by
  refine ⟨by show z.mu.length = (z.S.set i .off).length; simp [g.len], g.nd, fun j b q h1 h2 => ?_, g.there, g.hid, g.dis, g.tab, g.nt⟩
  have h2' : (z.S.set i .off)[j]? = some q := h2
  by_cases hj : i = j
  · subst hj
    rw [List.getElem?_set_self (by have := (List.getElem?_eq_some_iff.mp h2').1; simpa using this)] at h2'
    cases h2'
    trivial
  · rw [List.getElem?_set_ne hj] at h2'
    exact (g.at_ j b q h1 h2').mono Ex.frz.vx rfl
theorem not_own_frz {i : Nat} (g : Good w z) (hi : z.mu[i]? = some a) : ¬ (z.wr i .off z.H).own a := by
  rintro ⟨j, o, h1, h2, h3⟩
  have h1' : z.mu[j]? = some a := h1
  have h2' : (z.S.set i .off)[j]? = some o := h2
  have e : i = j := by
    have h3 := List.getElem?_eq_some_iff.mp hi
    have h4 := List.getElem?_eq_some_iff.mp h1'
    exact (List.getElem_inj g.nd).mp (h3.2.trans h4.2.symm)
  subst e
  rw [List.getElem?_set_self (by have := (List.getElem?_eq_some_iff.mp h2').1; simpa using this)] at h2'
  cases h2'
  cases h3
end
/-! ### outcomes -/
abbrev Env8 := List (Option D)
def Out {α : Type} (w : Wd) (z : Sit) (r : Res α) (P : α → Sit → Prop) (E : XK) : Prop := match r with
  | .ok a S' => ∀ z' : Sit, z'.S = S' → Ex z z' → Good w z' → P a z'
  | .er c fs S' => ∀ (z' : Sit) (dx : Addr) (us : List (Str × V)), z'.S = S' → Ex z z' → Good w z' → RepF w z' fs us → z'.H dx = some (.xd us) → ¬ z'.live dx → E (.ref (w.cm c)) (some dx) z'.H
  | .bad => False
section
variable {α β : Type} {w : Wd} {z z1 : Sit} {r : Res α} {P : α → Sit → Prop} {E : XK}
theorem Out.at (x : Ex z z1) (h : Out w z r P E) : Out w z1 r P E := by
  cases r with
  | ok a S => exact fun z' e x' g => h z' e (x.trans x') g
  | er c fs S => exact fun z' dx us e x' g => h z' dx us e (x.trans x') g
  | bad => exact h
theorem Out.imp {Q : α → Sit → Prop} (h : Out w z r P E) (i : ∀ a z', Ex z z' → Good w z' → P a z' → Q a z') : Out w z r Q E := by
  cases r with
  | ok a S => exact fun z' e x' g => i a z' x' g (h z' e x' g)
  | er c fs S => exact h
  | bad => exact h
theorem Out.bnd {m : M α} {k : α → M β} {P : β → Sit → Prop} {S : Store} (h : Out w z ((m.bnd k) S) P E) : Out w z (m S) (fun a z1 => Out w z1 (k a z1.S) P E) E := by
  unfold M.bnd at h
  cases e : m S with
  | ok a S1 => rw [e] at h; exact fun z1 e1 x g => by subst e1; exact Out.at x h
  | er c fs S1 => rw [e] at h; exact h
  | bad => rw [e] at h; exact h
theorem Out.ret {a : α} {S : Store} (h : Out w z (M.ret a S) P E) (g : Good w z) (e : z.S = S) : P a z := h z e (Ex.refl z) g
end
def REnv (w : Wd) (z : Sit) (env : Env8) (σ : L2.St) : Prop := env.length = σ.length ∧ ∀ (i : Nat) (d : D), env[i]? = some (some d) → ∃ v, σ[i]? = some (some v) ∧ Rep w z d v
theorem REnv.mono {w : Wd} {z z' : Sit} {env : Env8} {σ : L2.St} (h : REnv w z env σ) (x : Vx z z') : REnv w z' env σ := ⟨h.1, fun i d e => let ⟨v, h1, h2⟩ := h.2 i d e; ⟨v, h1, h2.mono x⟩⟩
theorem REnv.set {w : Wd} {z : Sit} {env : Env8} {σ : L2.St} {i : Nat} {d : D} {v : V} (h : REnv w z env σ) (r : Rep w z d v) : REnv w z (env.set i (some d)) (σ.set i (some v)) := by
  refine ⟨by simp [h.1], fun j e hj => ?_⟩
  by_cases q : i = j
  · subst q
    have hl := (List.getElem?_eq_some_iff.mp hj).1
    rw [List.length_set] at hl
    rw [List.getElem?_set_self hl] at hj
    cases hj
    exact ⟨v, by rw [List.getElem?_set_self (by rw [← h.1]; exact hl)], r⟩
  · rw [List.getElem?_set_ne q] at hj
    rw [List.getElem?_set_ne q]
    exact h.2 j e hj
/-! ### readings by functions -/
def tM (w : Wd) (E : XK) (f : Env8 → M D) : TE := fun σ H Q => ∃ (env : Env8) (z : Sit), z.H = H ∧ Good w z ∧ REnv w z env σ ∧ Out w z (f env z.S) (fun d z' => ∀ v, Rep w z' d v → Q v z'.H) E
def tMB (w : Wd) (E : XK) (f : Env8 → M Bool) : TT := fun σ H Q => ∃ (env : Env8) (z : Sit), z.H = H ∧ Good w z ∧ REnv w z env σ ∧ Out w z (f env z.S) (fun b z' => Q b z'.H) E
def tMA (w : Wd) (E : XK) (f : Env8 → M (List D)) : TA := fun σ H Q => ∃ (env : Env8) (z : Sit), z.H = H ∧ Good w z ∧ REnv w z env σ ∧ Out w z (f env z.S) (fun ds z' => ∀ vs, RepL w z' ds vs → Q vs z'.H) E
inductive Fl where
  | nx (env : Env8) | rt (d : D) | bk (env : Env8) | ct (env : Env8)
def FlP (w : Wd) (De : Ends) : Fl → Sit → Prop
  | .nx env, z => ∀ σ, REnv w z env σ → De.nx σ z.H
  | .rt d, z => ∀ v, Rep w z d v → De.rt v z.H
  | .bk env, z => ∀ σ, REnv w z env σ → De.bk σ z.H
  | .ct env, z => ∀ σ, REnv w z env σ → De.ct σ z.H
def tMS (w : Wd) (E : XK) (f : Env8 → M Fl) : TS := fun De σ H => ∃ (env : Env8) (z : Sit), z.H = H ∧ Good w z ∧ REnv w z env σ ∧ Out w z (f env z.S) (FlP w De) E
/-- a def's promise by a function of its arguments -/
def spM (w : Wd) (n : Nat) (F : List D → M D) : Sp := fun vs H Q E => vs.length = n ∧ ∃ (ds : List D) (z : Sit), z.H = H ∧ Good w z ∧ RepL w z ds vs ∧ Out w z (F ds z.S) (fun d z' => ∀ v, Rep w z' d v → Q v z'.H) E
abbrev PM (X : Cx) (w : Wd) (E : XK) (e : Expr) (f : Env8 → M D) : Prop := PE X e (tM w E f)
abbrev PMT (X : Cx) (w : Wd) (E : XK) (e : Expr) (f : Env8 → M Bool) : Prop := PT X e (tMB w E f)
abbrev PMA (X : Cx) (w : Wd) (E : XK) (es : List Expr) (f : Env8 → M (List D)) : Prop := PA X es (tMA w E f)
abbrev PMS (X : Cx) (w : Wd) (E : XK) (st : Stmt) (f : Env8 → M Fl) : Prop := PS X st (tMS w E f)
abbrev PMSs (X : Cx) (w : Wd) (E : XK) (st : List Stmt) (f : Env8 → M Fl) : Prop := PSs X st (tMS w E f)
theorem _root_.L2.PE.wk {X : Cx} {e : Expr} {t u : TE} (p : PE X e t) (h : ∀ σ H Q, u σ H Q → t σ H Q) : PE X e u := ⟨fun pins s σ H Q I x => p.run pins s σ H Q I (h σ H Q x)⟩
theorem _root_.L2.PT.wk {X : Cx} {e : Expr} {t u : TT} (p : PT X e t) (h : ∀ σ H Q, u σ H Q → t σ H Q) : PT X e u := ⟨fun pins s σ H Q I x => p.run pins s σ H Q I (h σ H Q x)⟩
theorem _root_.L2.PA.wk {X : Cx} {es : List Expr} {t u : TA} (p : PA X es t) (h : ∀ σ H Q, u σ H Q → t σ H Q) : PA X es u := ⟨fun pos pins s σ H Q I x => p.run pos pins s σ H Q I (h σ H Q x)⟩
theorem _root_.L2.PS.wk {X : Cx} {st : Stmt} {t u : TS} (p : PS X st t) (h : ∀ De σ H, u De σ H → t De σ H) : PS X st u := ⟨fun pins s σ H De I x => p.run pins s σ H De I (h De σ H x)⟩
theorem _root_.L2.PSs.wk {X : Cx} {st : List Stmt} {t u : TS} (p : PSs X st t) (h : ∀ De σ H, u De σ H → t De σ H) : PSs X st u := ⟨fun pins s σ H De I x => p.run pins s σ H De I (h De σ H x)⟩
end Ol

namespace Ol
open PySem PySem.Spec PyProof.Rows L2
/-! ### combinators -/
section
variable {α β : Type}
def fVar (i : Nat) : Env8 → M D := fun env => match env[i]? with
  | some (some d) => M.ret d
  | _ => M.bad
def fC (d : D) : Env8 → M D := fun _ => M.ret d
def f1 (g : α → M β) (fa : Env8 → M α) : Env8 → M β := fun env => (fa env).bnd g
def f2 (g : D → D → M β) (fa fb : Env8 → M D) : Env8 → M β := fun env => (fa env).bnd fun x => (fb env).bnd fun y => g x y
def fNil : Env8 → M (List D) := fun _ => M.ret []
def fCons (fa : Env8 → M D) (fr : Env8 → M (List D)) : Env8 → M (List D) := fun env => (fa env).bnd fun x => (fr env).bnd fun xs => M.ret (x :: xs)
def dBool : D → M Bool
  | .bl b => M.ret b
  | _ => M.bad
def fAnd (p q : Env8 → M Bool) : Env8 → M Bool := fun env => (p env).bnd fun b => if b = true then q env else M.ret false
def fOr (p q : Env8 → M Bool) : Env8 → M Bool := fun env => (p env).bnd fun b => if b = true then M.ret true else q env
def fNot (p : Env8 → M Bool) : Env8 → M Bool := fun env => (p env).bnd fun b => M.ret (!b)
def fIf {α : Type} (p : Env8 → M Bool) (fa fb : Env8 → M α) : Env8 → M α := fun env => (p env).bnd fun b => if b = true then fa env else fb env
def fAndV (fa fb : Env8 → M D) : Env8 → M D := fun env => ((fa env).bnd dBool).bnd fun b => if b = true then fb env else M.ret (.bl false)
def fOrV (fa fb : Env8 → M D) : Env8 → M D := fun env => ((fa env).bnd dBool).bnd fun b => if b = true then M.ret (.bl true) else fb env
def fNotV (fa : Env8 → M D) : Env8 → M D := fun env => ((fa env).bnd dBool).bnd fun b => M.ret (.bl (!b))
def fChain (g g' : D → D → M D) (fa fb fc : Env8 → M D) : Env8 → M D := fun env => (fa env).bnd fun x => (fb env).bnd fun y => ((g x y).bnd dBool).bnd fun b => if b = true then (fc env).bnd fun u => g' y u else M.ret (.bl false)
end
/-! ### what a rule does, by a function -/
abbrev PQ (w : Wd) (Q : VK) : D → Sit → Prop := fun d z' => ∀ v, Rep w z' d v → Q v z'.H
def Does1 (w : Wd) (E : XK) (r : V → Hp → VK → Prop) (g : D → M D) : Prop := ∀ (z : Sit) (a : D) (x : V) (Q : VK), Good w z → Rep w z a x → Out w z (g a z.S) (PQ w Q) E → r x z.H Q
def Does2 (w : Wd) (E : XK) (r : R2) (g : D → D → M D) : Prop := ∀ (z : Sit) (a b : D) (x y : V) (Q : VK), Good w z → Rep w z a x → Rep w z b y → Out w z (g a b z.S) (PQ w Q) E → r x y z.H Q
def DoesN (w : Wd) (E : XK) (r : List V → Hp → VK → Prop) (g : List D → M D) : Prop := ∀ (z : Sit) (as : List D) (xs : List V) (Q : VK), Good w z → RepL w z as xs → Out w z (g as z.S) (PQ w Q) E → r xs z.H Q
def alt2 (r r' : R2) : R2 := fun x y H Q => r x y H Q ∨ r' x y H Q
def altN (r r' : List V → Hp → VK → Prop) : List V → Hp → VK → Prop := fun xs H Q => r xs H Q ∨ r' xs H Q
def altE (t u : TE) : TE := fun σ H Q => t σ H Q ∨ u σ H Q
section
variable {X : Cx} {w : Wd} {E : XK}
theorem opr_or {f : Value → Value → Sem Value} {r r' : R2} (h : OpR X f r) (h' : OpR X f r') : OpR X f (alt2 r r') := by
  intro pins s σ H x y v u Q I rx ry z
  rcases z with z | z
  · exact h pins s σ H x y v u Q I rx ry z
  · exact h' pins s σ H x y v u Q I rx ry z
theorem ixr_or {r r' : R2} (h : IxR X r) (h' : IxR X r') : IxR X (alt2 r r') := by
  intro va sl pins s σ H x y v u Q I rx ry z e
  rcases z with z | z
  · exact h va sl pins s σ H x y v u Q I rx ry z e
  · exact h' va sl pins s σ H x y v u Q I rx ry z e
theorem cr_or {f : Value} {r r' : List V → Hp → VK → Prop} (h : CallR X f r) (h' : CallR X f r') : CallR X f (altN r r') := by
  intro pins s σ H xs us Q I rx z
  rcases z with z | z
  · exact h pins s σ H xs us Q I rx z
  · exact h' pins s σ H xs us Q I rx z
theorem pe_alt {e : Expr} {t u : TE} (p : PE X e t) (q : PE X e u) : PE X e (altE t u) := ⟨fun pins s σ H Q I x => by
  rcases x with x | x
  · exact p.run pins s σ H Q I x
  · exact q.run pins s σ H Q I x⟩
/-- one way, or another one where the first is none -/
def fAlt (f g : Env8 → M D) : Env8 → M D := fun env S => match f env S with
  | .bad => g env S
  | r => r
theorem pm_alt {e : Expr} {f g : Env8 → M D} (p : PM X w E e f) (q : PM X w E e g) : PM X w E e (fAlt f g) := (pe_alt p q).wk fun σ H Q ⟨env, z, eH, G, re, o⟩ => by
  unfold fAlt at o
  cases h : f env z.S with
  | ok a S => rw [h] at o; exact .inl ⟨env, z, eH, G, re, by rw [h]; exact o⟩
  | er c fs S => rw [h] at o; exact .inl ⟨env, z, eH, G, re, by rw [h]; exact o⟩
  | bad => rw [h] at o; exact .inr ⟨env, z, eH, G, re, o⟩
end
section
variable {X : Cx} {w : Wd} {E : XK} {e a b c : Expr} {fa fb fc : Env8 → M D} {pos : Pos}
theorem pm_var {i : Nat} (p : PE X e (tVar i)) : PM X w E e (fVar i) := p.wk fun σ H Q ⟨env, z, eH, G, re, o⟩ => by
  unfold fVar at o
  cases h : env[i]? with
  | none => rw [h] at o; exact o.elim
  | some x =>
    cases x with
    | none => rw [h] at o; exact o.elim
    | some d =>
      rw [h] at o
      obtain ⟨v, h1, h2⟩ := re.2 i d h
      subst eH
      exact ⟨v, h1, (Out.ret o G rfl) v h2⟩
theorem pm_c {d : D} {v : V} (p : PE X e (tC v)) (h : ∀ z, Rep w z d v) : PM X w E e (fC d) := p.wk fun σ H Q ⟨env, z, eH, G, re, o⟩ => by
  subst eH
  exact (Out.ret o G rfl) v (h z)
theorem rep_int {z : Sit} {i : Int} : Rep w z (.int i) (.int i) := by rw [Rep]
theorem rep_bl {z : Sit} {b : Bool} : Rep w z (.bl b) (.bl b) := by rw [Rep]
theorem rep_str {z : Sit} {s : Str} : Rep w z (.str s) (.str s) := by rw [Rep]
theorem rep_non {z : Sit} : Rep w z .non .non := by rw [Rep]
theorem rep_cls {z : Sit} {c : Nat} : Rep w z (.cls c) (.ref (w.cm c)) := by rw [Rep]
theorem rep_ty {z : Sit} {c : String} : Rep w z (.ty c) (.ty c) := by rw [Rep]
theorem pm_int {i : Int} {j} : PM X w E (.Constant (.int i) j pos) (fC (.int i)) := pm_c pe_int fun _ => rep_int
theorem pm_str {s : Str} {j} : PM X w E (.Constant (.str s) j pos) (fC (.str s)) := pm_c pe_str fun _ => rep_str
theorem pm_bl {b : Bool} {j} : PM X w E (.Constant (.bool b) j pos) (fC (.bl b)) := pm_c pe_bl fun _ => rep_bl
theorem pm_non {j} : PM X w E (.Constant .none j pos) (fC .non) := pm_c pe_non fun _ => rep_non
theorem pm_1 {r : V → Hp → VK → Prop} {g : D → M D} (p : PE X e (tUn r (tM w E fa))) (hd : Does1 w E r g) : PM X w E e (f1 g fa) := p.wk fun σ H Q ⟨env, z, eH, G, re, o⟩ =>
  ⟨env, z, eH, G, re, (Out.bnd o).imp fun a z1 x1 g1 o1 x rx => hd z1 a x Q g1 rx o1⟩
theorem pm_2 {r : R2} {g : D → D → M D} (p : PE X e (tOp r (tM w E fa) (tM w E fb))) (hd : Does2 w E r g) : PM X w E e (f2 g fa fb) := p.wk fun σ H Q ⟨env, z, eH, G, re, o⟩ =>
  ⟨env, z, eH, G, re, (Out.bnd o).imp fun a z1 x1 g1 o1 x rx => ⟨env, z1, rfl, g1, re.mono x1.vx, (Out.bnd o1).imp fun b z2 x2 g2 o2 y ry => hd z2 a b x y Q g2 (rx.mono x2.vx) ry o2⟩⟩
theorem pm_n {r : List V → Hp → VK → Prop} {g : List D → M D} {fs : Env8 → M (List D)} (p : PE X e (tCB r (tMA w E fs))) (hd : DoesN w E r g) : PM X w E e (f1 g fs) := p.wk fun σ H Q ⟨env, z, eH, G, re, o⟩ =>
  ⟨env, z, eH, G, re, (Out.bnd o).imp fun as z1 x1 g1 o1 xs rx => hd z1 as xs Q g1 rx o1⟩
theorem pmt_cmp {r : R2} {g : D → D → M D} (p : PT X e (tTest (tOp r (tM w E fa) (tM w E fb)))) (hd : Does2 w E r g) : PMT X w E e (f1 dBool (f2 g fa fb)) := p.wk fun σ H Q ⟨env, z, eH, G, re, o⟩ =>
  ⟨env, z, eH, G, re, (Out.bnd (Out.bnd o)).imp fun a z1 x1 g1 o1 x rx => ⟨env, z1, rfl, g1, re.mono x1.vx, (Out.bnd o1).imp fun b z2 x2 g2 o2 y ry => hd z2 a b x y _ g2 (rx.mono x2.vx) ry (o2.imp fun d z3 x3 g3 o3 v rv => by
    cases d with
    | bl k => rw [Rep] at rv; exact ⟨k, rv, Out.ret o3 g3 rfl⟩
    | _ => exact o3.elim)⟩⟩
theorem pm_chain {r r' : R2} {g g' : D → D → M D} (p : PE X e (tChain r r' (tM w E fa) (tM w E fb) (tM w E fc))) (hd : Does2 w E r g) (hd' : Does2 w E r' g') : PM X w E e (fChain g g' fa fb fc) := p.wk fun σ H Q ⟨env, z, eH, G, re, o⟩ =>
  ⟨env, z, eH, G, re, (Out.bnd o).imp fun a z1 x1 g1 o1 x rx => ⟨env, z1, rfl, g1, re.mono x1.vx, (Out.bnd o1).imp fun b z2 x2 g2 o2 y ry => hd z2 a b x y _ g2 (rx.mono x2.vx) ry ((Out.bnd (Out.bnd o2)).imp fun d z3 x3 g3 o3 v rv => by
    cases d with
    | bl k =>
      rw [Rep] at rv
      have o4 := Out.ret o3 g3 rfl
      refine ⟨k, rv, ?_⟩
      cases k with
      | true => exact iteT ⟨env, z3, rfl, g3, ((re.mono x1.vx).mono x2.vx).mono x3.vx, (Out.bnd (show Out w z3 (((fc env).bnd fun u => g' b u) z3.S) (PQ w Q) E from o4)).imp fun u z4 x4 g4 o5 q rq => hd' z4 b u y q Q g4 ((ry.mono x3.vx).mono x4.vx) rq o5⟩
      | false => exact iteF ((Out.ret (show Out w z3 (M.ret (.bl false) z3.S) (PQ w Q) E from o4) g3 rfl) _ rep_bl)
    | _ => exact o3.elim)⟩⟩
theorem pmt_chain {r r' : R2} {g g' : D → D → M D} (p : PT X e (tTest (tChain r r' (tM w E fa) (tM w E fb) (tM w E fc)))) (hd : Does2 w E r g) (hd' : Does2 w E r' g') : PMT X w E e (f1 dBool (fChain g g' fa fb fc)) := p.wk fun σ H Q ⟨env, z, eH, G, re, o⟩ =>
  ⟨env, z, eH, G, re, (Out.bnd (Out.bnd o)).imp fun a z1 x1 g1 o1 x rx => ⟨env, z1, rfl, g1, re.mono x1.vx, (Out.bnd o1).imp fun b z2 x2 g2 o2 y ry => hd z2 a b x y _ g2 (rx.mono x2.vx) ry ((Out.bnd (Out.bnd o2)).imp fun d z3 x3 g3 o3 v rv => by
    cases d with
    | bl k =>
      rw [Rep] at rv
      have o4 := Out.ret o3 g3 rfl
      refine ⟨k, rv, ?_⟩
      have fin : ∀ (z' : Sit) (d : D), Good w z' → Out w z' (dBool d z'.S) (fun b z'' => Q b z''.H) E → ∀ v, Rep w z' d v → ∃ k, v = .bl k ∧ Q k z'.H := fun z' d gz od v rv => by
        cases d with
        | bl k => rw [Rep] at rv; exact ⟨k, rv, Out.ret od gz rfl⟩
        | _ => exact od.elim
      cases k with
      | true => exact iteT ⟨env, z3, rfl, g3, ((re.mono x1.vx).mono x2.vx).mono x3.vx, (Out.bnd (show Out w z3 (((fc env).bnd fun u => g' b u) z3.S) _ E from o4)).imp fun u z4 x4 g4 o5 q rq => hd' z4 b u y q _ g4 ((ry.mono x3.vx).mono x4.vx) rq (o5.imp fun d' z5 x5 g5 o6 v' rv' => fin z5 d' g5 o6 v' rv')⟩
      | false => exact iteF (fin z3 (D.bl false) g3 (Out.ret (show Out w z3 (M.ret (D.bl false) z3.S) _ E from o4) g3 rfl) _ rep_bl)
    | _ => exact o3.elim)⟩⟩
theorem pma_nil : PMA X w E [] fNil := pa_nil.wk fun σ H Q ⟨env, z, eH, G, re, o⟩ => by
  subst eH
  exact (Out.ret o G rfl) [] (by rw [RepL])
theorem pma_cons {es : List Expr} {fr : Env8 → M (List D)} (p : PM X w E e fa) (q : PMA X w E es fr) (hs : starEach (e :: es) X.env = (false, eval e X.env) :: starEach es X.env := by rfl) : PMA X w E (e :: es) (fCons fa fr) := (pa_cons p q hs).wk fun σ H Q ⟨env, z, eH, G, re, o⟩ =>
  ⟨env, z, eH, G, re, (Out.bnd o).imp fun a z1 x1 g1 o1 x rx => ⟨env, z1, rfl, g1, re.mono x1.vx, (Out.bnd o1).imp fun as z2 x2 g2 o2 xs rxs => (Out.ret o2 g2 rfl) (x :: xs) (by rw [RepL]; exact ⟨x, xs, rfl, rx.mono x2.vx, rxs⟩)⟩⟩
/-! tests -/
theorem pmt_val (p : PM X w E e fa) (he : ∀ whole, isTrue e X.env whole = (do let v ← whole; standAt e.pos; holding [v] (truthy v)) := by intro _; rfl) : PMT X w E e (f1 dBool fa) := (pt_val p he).wk fun σ H Q ⟨env, z, eH, G, re, o⟩ =>
  ⟨env, z, eH, G, re, (Out.bnd o).imp fun d z1 x1 g1 o1 v rv => by
    cases d with
    | bl k => rw [Rep] at rv; exact ⟨k, rv, Out.ret o1 g1 rfl⟩
    | _ => exact o1.elim⟩
variable {p q : Env8 → M Bool}
theorem pmt_not (h : PMT X w E a p) : PMT X w E (.UnaryOp .Not a pos) (fNot p) := (pt_not h).wk fun σ H Q ⟨env, z, eH, G, re, o⟩ =>
  ⟨env, z, eH, G, re, (Out.bnd o).imp fun b z1 x1 g1 o1 => Out.ret o1 g1 rfl⟩
abbrev PMW (X : Cx) (w : Wd) (E : XK) (e : Expr) (f : Env8 → M Bool) : Prop := PW X e (tMB w E f)
theorem _root_.L2.PW.wk {X : Cx} {e : Expr} {t u : TT} (p : PW X e t) (h : ∀ σ H Q, u σ H Q → t σ H Q) : PW X e u := ⟨fun wh pins s σ H Q I x => p.run wh pins s σ H Q I (h σ H Q x)⟩
theorem pmw_and {rest : List Expr} (h : PMT X w E a p) (k : PMW X w E (.BoolOp .And (b :: rest) pos) q) : PMW X w E (.BoolOp .And (a :: b :: rest) pos) (fAnd p q) := PW.wk (pw_and h k) fun σ H Q ⟨env, z, eH, G, re, o⟩ =>
  ⟨env, z, eH, G, re, (Out.bnd o).imp fun b z1 x1 g1 o1 => by
    cases b with
    | true => exact iteT ⟨env, z1, rfl, g1, re.mono x1.vx, o1⟩
    | false => exact iteF (Out.ret (show Out w z1 (M.ret false z1.S) _ E from o1) g1 rfl)⟩
theorem pmw_or {rest : List Expr} (h : PMT X w E a p) (k : PMW X w E (.BoolOp .Or (b :: rest) pos) q) : PMW X w E (.BoolOp .Or (a :: b :: rest) pos) (fOr p q) := PW.wk (pw_or h k) fun σ H Q ⟨env, z, eH, G, re, o⟩ =>
  ⟨env, z, eH, G, re, (Out.bnd o).imp fun b z1 x1 g1 o1 => by
    cases b with
    | true => exact iteT (Out.ret (show Out w z1 (M.ret true z1.S) _ E from o1) g1 rfl)
    | false => exact iteF ⟨env, z1, rfl, g1, re.mono x1.vx, o1⟩⟩
theorem pmw_and1 (h : PMT X w E a p) : PMW X w E (.BoolOp .And [a] pos) p := pw_and1 h
theorem pmw_or1 (h : PMT X w E a p) : PMW X w E (.BoolOp .Or [a] pos) p := pw_or1 h
theorem pm_ifExp {c : Expr} (h : PMT X w E c p) (ha : PM X w E a fa) (hb : PM X w E b fb) : PM X w E (.IfExp c a b pos) (fIf p fa fb) := (pe_ifExp h ha hb).wk fun σ H Q ⟨env, z, eH, G, re, o⟩ =>
  ⟨env, z, eH, G, re, (Out.bnd o).imp fun b z1 x1 g1 o1 => by
    cases b with
    | true => exact iteT ⟨env, z1, rfl, g1, re.mono x1.vx, o1⟩
    | false => exact iteF ⟨env, z1, rfl, g1, re.mono x1.vx, o1⟩⟩
theorem pm_and {rest : List Expr} (h : PM X w E a fa) (k : PM X w E (.BoolOp .And (b :: rest) pos) fb) : PM X w E (.BoolOp .And (a :: b :: rest) pos) (fAndV fa fb) := (pe_and h k).wk fun σ H Q ⟨env, z, eH, G, re, o⟩ =>
  ⟨env, z, eH, G, re, (Out.bnd (Out.bnd o)).imp fun d z1 x1 g1 o1 v rv => by
    cases d with
    | bl k =>
      rw [Rep] at rv
      have o2 := Out.ret o1 g1 rfl
      refine ⟨k, rv, ?_⟩
      cases k with
      | true => exact iteT ⟨env, z1, rfl, g1, re.mono x1.vx, o2⟩
      | false => exact iteF ((Out.ret (show Out w z1 (M.ret (.bl false) z1.S) (PQ w Q) E from o2) g1 rfl) _ rep_bl)
    | _ => exact o1.elim⟩
theorem pm_or {rest : List Expr} (h : PM X w E a fa) (k : PM X w E (.BoolOp .Or (b :: rest) pos) fb) : PM X w E (.BoolOp .Or (a :: b :: rest) pos) (fOrV fa fb) := (pe_or h k).wk fun σ H Q ⟨env, z, eH, G, re, o⟩ =>
  ⟨env, z, eH, G, re, (Out.bnd (Out.bnd o)).imp fun d z1 x1 g1 o1 v rv => by
    cases d with
    | bl k =>
      rw [Rep] at rv
      have o2 := Out.ret o1 g1 rfl
      refine ⟨k, rv, ?_⟩
      cases k with
      | true => exact iteT ((Out.ret (show Out w z1 (M.ret (.bl true) z1.S) (PQ w Q) E from o2) g1 rfl) _ rep_bl)
      | false => exact iteF ⟨env, z1, rfl, g1, re.mono x1.vx, o2⟩
    | _ => exact o1.elim⟩
theorem pm_one {op} (h : PM X w E a fa) : PM X w E (.BoolOp op [a] pos) fa := pe_one h
theorem pm_not (h : PM X w E a fa) : PM X w E (.UnaryOp .Not a pos) (fNotV fa) := (pe_not h).wk fun σ H Q ⟨env, z, eH, G, re, o⟩ =>
  ⟨env, z, eH, G, re, (Out.bnd (Out.bnd o)).imp fun d z1 x1 g1 o1 v rv => by
    cases d with
    | bl k =>
      rw [Rep] at rv
      have o2 := Out.ret o1 g1 rfl
      exact ⟨k, rv, (Out.ret o2 g1 rfl) _ rep_bl⟩
    | _ => exact o1.elim⟩
end
end Ol

namespace Ol
open PySem PySem.Spec PyProof.Rows L2
abbrev big : Nat := 1000000
theorem big_le {n : Nat} (h : n ≤ big) : n ≤ sizeLine := Nat.le_trans h (by decide)
section
variable {w : Wd} {z : Sit}
theorem RepL.length : ∀ {ds : List D} {vs : List V}, RepL w z ds vs → ds.length = vs.length
  | [], _, h => by rw [RepL] at h; rw [h]; rfl
  | d :: ds, vs, h => by
    rw [RepL] at h
    obtain ⟨v, r, rfl, _, h2⟩ := h
    simp [h2.length]
theorem RepL.nil : RepL w z [] [] := by rw [RepL]
theorem RepL.cons {d : D} {v : V} {ds : List D} {vs : List V} (h : Rep w z d v) (r : RepL w z ds vs) : RepL w z (d :: ds) (v :: vs) := by rw [RepL]; exact ⟨v, vs, rfl, h, r⟩
theorem RepL.append : ∀ {ds es : List D} {vs us : List V}, RepL w z ds vs → RepL w z es us → RepL w z (ds ++ es) (vs ++ us)
  | [], _, _, _, h, r => by rw [RepL] at h; rw [h]; exact r
  | d :: ds, es, vs, us, h, r => by
    rw [RepL] at h
    obtain ⟨v, q, rfl, h1, h2⟩ := h
    exact RepL.cons h1 (h2.append r)
theorem RepL.get : ∀ {ds : List D} {vs : List V} {i : Nat} {d : D}, RepL w z ds vs → ds[i]? = some d → ∃ v, vs[i]? = some v ∧ Rep w z d v
  | [], _, _, _, h, e => by simp at e
  | x :: ds, vs, 0, d, h, e => by
    rw [RepL] at h
    obtain ⟨v, q, rfl, h1, h2⟩ := h
    simp at e
    subst e
    exact ⟨v, rfl, h1⟩
  | x :: ds, vs, i + 1, d, h, e => by
    rw [RepL] at h
    obtain ⟨v, q, rfl, h1, h2⟩ := h
    obtain ⟨u, h3, h4⟩ := h2.get (i := i) (d := d) (by simpa using e)
    exact ⟨u, by simpa using h3, h4⟩
theorem RepL.get' {ds : List D} {vs : List V} {i : Nat} {v : V} (r : RepL w z ds vs) (e : vs[i]? = some v) : ∃ d, ds[i]? = some d ∧ Rep w z d v := by
  have hl := r.length
  have hi := (List.getElem?_eq_some_iff.mp e).1
  obtain ⟨u, h1, h2⟩ := r.get (i := i) (d := ds[i]) (List.getElem?_eq_getElem (by omega))
  rw [e] at h1
  cases h1
  exact ⟨_, List.getElem?_eq_getElem (by omega), h2⟩
theorem RepL.drop : ∀ {ds : List D} {vs : List V} (n : Nat), RepL w z ds vs → RepL w z (ds.drop n) (vs.drop n)
  | _, _, 0, h => h
  | [], _, _ + 1, h => by rw [RepL] at h; rw [h]; exact RepL.nil
  | d :: ds, vs, n + 1, h => by
    rw [RepL] at h
    obtain ⟨v, q, rfl, h1, h2⟩ := h
    exact h2.drop n
theorem RepL.take : ∀ {ds : List D} {vs : List V} (n : Nat), RepL w z ds vs → RepL w z (ds.take n) (vs.take n)
  | _, _, 0, h => by simp; exact RepL.nil
  | [], _, _ + 1, h => by rw [RepL] at h; rw [h]; exact RepL.nil
  | d :: ds, vs, n + 1, h => by
    rw [RepL] at h
    obtain ⟨v, q, rfl, h1, h2⟩ := h
    exact RepL.cons h1 (h2.take n)
theorem RepL.set {d : D} {v : V} (q : Rep w z d v) : ∀ {ds : List D} {vs : List V} (i : Nat), RepL w z ds vs → RepL w z (ds.set i d) (vs.set i v)
  | [], _, _, h => by rw [RepL] at h; rw [h]; exact RepL.nil
  | x :: ds, vs, 0, h => by
    rw [RepL] at h
    obtain ⟨u, r, rfl, h1, h2⟩ := h
    exact RepL.cons q h2
  | x :: ds, vs, i + 1, h => by
    rw [RepL] at h
    obtain ⟨u, r, rfl, h1, h2⟩ := h
    exact RepL.cons h1 (RepL.set q i h2)
theorem RepL.ints : ∀ {ns : List Int} {vs : List V}, RepL w z (ns.map D.int) vs → vs = ns.map V.int
  | [], _, h => by rw [List.map_nil, RepL] at h; exact h
  | n :: ns, vs, h => by
    rw [List.map_cons, RepL] at h
    obtain ⟨u, r, rfl, h1, h2⟩ := h
    rw [Rep] at h1
    rw [h1, h2.ints]; rfl
theorem RepL.mkInts : ∀ (ns : List Int), RepL w z (ns.map D.int) (ns.map V.int)
  | [] => RepL.nil
  | n :: ns => RepL.cons rep_int (RepL.mkInts ns)
theorem RepL.bls : ∀ {ns : List Bool} {vs : List V}, RepL w z (ns.map D.bl) vs → vs = ns.map V.bl
  | [], _, h => by rw [List.map_nil, RepL] at h; exact h
  | n :: ns, vs, h => by
    rw [List.map_cons, RepL] at h
    obtain ⟨u, r, rfl, h1, h2⟩ := h
    rw [Rep] at h1
    rw [h1, h2.bls]; rfl
theorem RepL.strs : ∀ {ns : List Str} {vs : List V}, RepL w z (ns.map D.str) vs → vs = ns.map V.str
  | [], _, h => by rw [List.map_nil, RepL] at h; exact h
  | n :: ns, vs, h => by
    rw [List.map_cons, RepL] at h
    obtain ⟨u, r, rfl, h1, h2⟩ := h
    rw [Rep] at h1
    rw [h1, h2.strs]; rfl
theorem RepL.mkStrs : ∀ (ns : List Str), RepL w z (ns.map D.str) (ns.map V.str)
  | [] => RepL.nil
  | n :: ns => RepL.cons rep_str (RepL.mkStrs ns)
/-! lists, dicts and instances, written no more or not -/
def asL (S : Store) : D → Option (List D)
  | .lst ds => some ds
  | .loc i => match S[i]? with
    | some (.lst ds) => some ds
    | _ => none
  | _ => none
theorem asL_at {d : D} {v : V} {ds : List D} (g : Good w z) (r : Rep w z d v) (e : asL z.S d = some ds) : ∃ a vs, v = .ref a ∧ z.H a = some (.lst vs) ∧ RepL w z ds vs := by
  unfold asL at e
  split at e
  · cases e
    rw [Rep] at r
    obtain ⟨a, vs, h1, _, h2, h3⟩ := r
    exact ⟨a, vs, h1, h2, h3⟩
  · rw [Rep] at r
    obtain ⟨a, h1, h2⟩ := r
    split at e
    · cases e
      rename_i i ds' h3
      obtain ⟨vs, h4, h5⟩ := g.at_ _ _ _ h2 h3
      exact ⟨a, vs, h1, h4, h5⟩
    · cases e
  · cases e
def asT : D → Option (List D)
  | .tup ds => some ds
  | _ => none
theorem asT_at {d : D} {v : V} {ds : List D} (r : Rep w z d v) (e : asT d = some ds) : ∃ a vs, v = .ref a ∧ SqT w.K z.H a vs ∧ RepL w z ds vs := by
  unfold asT at e
  split at e
  · cases e
    rw [Rep] at r
    obtain ⟨a, vs, h1, h2, h3⟩ := r
    refine ⟨a, vs, h1, ?_, h3⟩
    rcases h2 with ⟨_, h2⟩ | h2
    · exact .inl h2
    · exact .inr h2
  · cases e
def asI (S : Store) : D → Option (Nat × List (Str × D))
  | .ins c fs => some (c, fs)
  | .loc i => match S[i]? with
    | some (.ins c fs) => some (c, fs)
    | _ => none
  | _ => none
theorem asI_at {d : D} {v : V} {c : Nat} {fs : List (Str × D)} (g : Good w z) (r : Rep w z d v) (e : asI z.S d = some (c, fs)) : ∃ a dx us, v = .ref a ∧ z.H a = some (.ins (w.cm c) dx us) ∧ RepF w z fs us := by
  unfold asI at e
  split at e
  · cases e
    rw [Rep] at r
    obtain ⟨a, dx, vs, h1, _, h2, h3⟩ := r
    exact ⟨a, dx, vs, h1, h2, h3⟩
  · rw [Rep] at r
    obtain ⟨a, h1, h2⟩ := r
    split at e
    · cases e
      rename_i i ds' h3 h4
      obtain ⟨dx, vs, h4, h5⟩ := g.at_ _ _ _ h2 h4
      exact ⟨a, dx, vs, h1, h4, h5⟩
    · cases e
  · cases e
def asK (S : Store) : D → Option (List (Key × D))
  | .dct ds => some ds
  | .loc i => match S[i]? with
    | some (.dct ds) => some ds
    | _ => none
  | _ => none
theorem asK_at {d : D} {v : V} {ds : List (Key × D)} (g : Good w z) (r : Rep w z d v) (e : asK z.S d = some ds) : ∃ a vs, v = .ref a ∧ z.H a = some (.dK vs) ∧ RepK w z ds vs := by
  unfold asK at e
  split at e
  · cases e
    rw [Rep] at r
    obtain ⟨a, vs, h1, _, h2, h3⟩ := r
    exact ⟨a, vs, h1, h2, h3⟩
  · rw [Rep] at r
    obtain ⟨a, h1, h2⟩ := r
    split at e
    · cases e
      rename_i i ds' h3
      obtain ⟨vs, h4, h5⟩ := g.at_ _ _ _ h2 h3
      exact ⟨a, vs, h1, h4, h5⟩
    · cases e
  · cases e
/-! new things -/
variable {E : XK} {Q : VK} {ds : List D} {vs : List V}
theorem Out.v {d : D} {v : V} (o : Out w z (M.ret d z.S) (PQ w Q) E) (g : Good w z) (r : Rep w z d v) : Q v z.H := (Out.ret o g rfl) v r
theorem new_lst (g : Good w z) (r : RepL w z ds vs) (o : Out w z (M.ret (.lst ds) z.S) (PQ w Q) E) : ∀ p, z.H p = none → Q (.ref p) (upd z.H p (.lst vs)) := fun p hp => by
  have s := Same.new (o := .lst vs) hp
  refine o (z.on (upd z.H p (.lst vs))) rfl (Ex.more s) (g.more s) (.ref p) ?_
  rw [Rep]
  exact ⟨p, vs, rfl, g.fresh hp, upd_same, r.mono (Ex.more s).vx⟩
theorem new_tup (g : Good w z) (r : RepL w z ds vs) (o : Out w z (M.ret (.tup ds) z.S) (PQ w Q) E) : ∀ p, z.H p = none → Q (.ref p) (upd z.H p (.tup vs)) := fun p hp => by
  have s := Same.new (o := .tup vs) hp
  refine o (z.on (upd z.H p (.tup vs))) rfl (Ex.more s) (g.more s) (.ref p) ?_
  rw [Rep]
  exact ⟨p, vs, rfl, .inl ⟨g.fresh hp, .inl upd_same⟩, r.mono (Ex.more s).vx⟩
theorem new_loc (g : Good w z) (r : RepL w z ds vs) (o : Out w z (.ok (D.loc z.S.length) (z.S ++ [.lst ds])) (PQ w Q) E) : ∀ p, z.H p = none → Q (.ref p) (upd z.H p (.lst vs)) := fun p hp => by
  have s := Same.new (o := .lst vs) hp
  have x : Ex z (z.add p (.lst ds) (upd z.H p (.lst vs))) := Ex.add g hp s
  refine o (z.add p (.lst ds) (upd z.H p (.lst vs))) rfl x (g.add hp s ⟨vs, upd_same, r.mono x.vx⟩ (by rw [upd_same]; simp)) (.ref p) ?_
  rw [Rep]
  refine ⟨p, rfl, ?_⟩
  show (z.mu ++ [p])[z.S.length]? = some p
  rw [← g.len, List.getElem?_append_right (Nat.le_refl _), Nat.sub_self]
  rfl
end
/-! ### operators -/
def dAdd : D → D → M D
  | .int i, .int j => M.ret (.int (i + j))
  | .str a, .str b => if a.length + b.length ≤ big then M.ret (.str (a ++ b)) else M.bad
  | .lst a, .lst b => if a.length + b.length ≤ big then M.ret (.lst (a ++ b)) else M.bad
  | .tup a, .tup b => if a ≠ [] ∧ b ≠ [] ∧ a.length + b.length ≤ big then M.ret (.tup (a ++ b)) else M.bad
  | _, _ => M.bad
def dSub : D → D → M D
  | .int i, .int j => M.ret (.int (i - j))
  | _, _ => M.bad
def dMul : D → D → M D
  | .int i, .int j => if i.natAbs < 2 ^ 64 ∨ j.natAbs < 2 ^ 64 ∨ i.natAbs.log2 + j.natAbs.log2 < 1000000 then M.ret (.int (i * j)) else M.bad
  | _, _ => M.bad
def dMod : D → D → M D
  | .int i, .int j => if 0 < j then M.ret (.int (i % j)) else M.bad
  | _, _ => M.bad
def dFdiv : D → D → M D
  | .int i, .int j => if 0 < j ∧ j.natAbs.log2 < 9000 then M.ret (.int (i / j)) else M.bad
  | _, _ => M.bad
def dPow : D → D → M D
  | .int i, .int j => if 0 ≤ j ∧ j ≤ 1000000 ∧ i.natAbs < 2 ^ 64 then M.ret (.int (i ^ j.toNat)) else M.bad
  | _, _ => M.bad
def dNeg : D → M D
  | .int i => M.ret (.int (-i))
  | _ => M.bad
/-- the order of texts -/
def ltS (a b : Str) : Bool := decide (a.cps.toList < b.cps.toList)
def dLt : D → D → M D
  | .int i, .int j => M.ret (.bl (decide (i < j)))
  | .str a, .str b => M.ret (.bl (ltS a b))
  | _, _ => M.bad
def dLe : D → D → M D
  | .int i, .int j => M.ret (.bl (decide (i ≤ j)))
  | .str a, .str b => M.ret (.bl (!ltS b a))
  | _, _ => M.bad
def dGt : D → D → M D
  | .int i, .int j => M.ret (.bl (decide (j < i)))
  | _, _ => M.bad
def dGe : D → D → M D
  | .int i, .int j => M.ret (.bl (decide (j ≤ i)))
  | _, _ => M.bad
mutual
def toPy (S : Store) : D → Option PyData
  | .non => some .none
  | .bl b => some (.bool b)
  | .int i => some (.int i)
  | .str s => some (.str s)
  | .lst ds => (toPyL S ds).map .list
  | .tup ds => (toPyL S ds).map .tuple
  | _ => none
def toPyL (S : Store) : List D → Option (List PyData)
  | [] => some []
  | d :: ds => match toPy S d, toPyL S ds with
    | some p, some ps => some (p :: ps)
    | _, _ => none
end
/-- the data, also of a list that may be written -/
def pyOf (S : Store) (d : D) : Option PyData := match d with
  | .loc i => match asL S (.loc i) with
    | some ds => (toPyL S ds).map .list
    | none => none
  | d => toPy S d
def dEqG (neg : Bool) (a b : D) : M D := fun S => match a, b with
  | .int i, .int j => .ok (.bl (neg ^^ decide (i = j))) S
  | .str i, .str j => .ok (.bl (neg ^^ decide (i = j))) S
  | .bl i, .bl j => .ok (.bl (neg ^^ decide (i = j))) S
  | a, b => match pyOf S a, pyOf S b with
    | some p, some q => if SeqAt.shaped p = true ∧ SeqAt.shaped q = true then .ok (.bl (neg ^^ PyData.eqv p q)) S else .bad
    | _, _ => .bad
abbrev dEq : D → D → M D := dEqG false
abbrev dNe : D → D → M D := dEqG true
def dIsN : D → D → M D
  | .non, .non => M.ret (.bl true)
  | .non, _ => M.bad
  | _, .non => M.ret (.bl false)
  | _, _ => M.bad
def dNotN : D → D → M D
  | .non, .non => M.ret (.bl false)
  | .non, _ => M.bad
  | _, .non => M.ret (.bl true)
  | _, _ => M.bad
section
variable {X : Cx} {w : Wd} {E : XK} {e a b c : Expr} {fa fb fc : Env8 → M D} {pos : Pos}
theorem pm_add (hK : X.K = w.K) (A : PM X w E a fa) (B : PM X w E b fb) : PM X w E (.BinOp a .Add b pos) (f2 dAdd fa fb) := by
  refine pm_2 (pe_op (opr_or op_add (opr_or op_add_str (opr_or op_cat op_catT))) A B) ?_
  intro z a b x y Q g ra rb o
  unfold dAdd at o
  split at o
  · rw [Rep] at ra rb
    exact .inl ⟨_, _, ra, rb, o.v g rep_int⟩
  · rw [Rep] at ra rb
    split at o
    · rename_i h
      exact .inr (.inl ⟨_, _, ra, rb, big_le h, o.v g rep_str⟩)
    · exact o.elim
  · rw [Rep] at ra rb
    obtain ⟨p, vs, e1, _, h1, r1⟩ := ra
    obtain ⟨q, us, e2, _, h2, r2⟩ := rb
    split at o
    · rename_i h
      rw [r1.length, r2.length] at h
      exact .inr (.inr (.inl ⟨p, q, vs, us, e1, e2, h1, h2, big_le h, new_lst g (r1.append r2) o⟩))
    · exact o.elim
  · obtain ⟨p, vs, e1, h1, r1⟩ := asT_at ra rfl
    obtain ⟨q, us, e2, h2, r2⟩ := asT_at rb rfl
    split at o
    · rename_i h
      obtain ⟨n1, n2, h⟩ := h
      rw [r1.length, r2.length] at h
      have m1 : vs ≠ [] := fun e => n1 (List.length_eq_zero_iff.mp (by rw [r1.length, e]; rfl))
      have m2 : us ≠ [] := fun e => n2 (List.length_eq_zero_iff.mp (by rw [r2.length, e]; rfl))
      rw [← hK] at h1 h2
      exact .inr (.inr (.inr ⟨p, q, vs, us, e1, e2, h1, h2, m1, big_le h, fun e => absurd e m2, fun _ => new_tup g (r1.append r2) o⟩))
    · exact o.elim
  · exact o.elim
theorem pm_sub (A : PM X w E a fa) (B : PM X w E b fb) : PM X w E (.BinOp a .Sub b pos) (f2 dSub fa fb) := by
  refine pm_2 (pe_op op_sub A B) ?_
  intro z a b x y Q g ra rb o
  unfold dSub at o
  split at o
  · rw [Rep] at ra rb
    exact ⟨_, _, ra, rb, o.v g rep_int⟩
  · exact o.elim
theorem pm_mul (A : PM X w E a fa) (B : PM X w E b fb) : PM X w E (.BinOp a .Mult b pos) (f2 dMul fa fb) := by
  refine pm_2 (pe_op (opr_or op_mul op_mulW) A B) ?_
  intro z a b x y Q g ra rb o
  unfold dMul at o
  split at o
  · rw [Rep] at ra rb
    split at o
    · rename_i h
      rcases h with h | h | h
      · exact .inl ⟨_, _, ra, rb, .inl ⟨by omega, by omega⟩, o.v g rep_int⟩
      · exact .inl ⟨_, _, ra, rb, .inr ⟨by omega, by omega⟩, o.v g rep_int⟩
      · exact .inr ⟨_, _, ra, rb, h, o.v g rep_int⟩
    · exact o.elim
  · exact o.elim
theorem pm_mod (A : PM X w E a fa) (B : PM X w E b fb) : PM X w E (.BinOp a .Mod b pos) (f2 dMod fa fb) := by
  refine pm_2 (pe_op op_mod A B) ?_
  intro z a b x y Q g ra rb o
  unfold dMod at o
  split at o
  · rw [Rep] at ra rb
    split at o
    · rename_i h
      exact ⟨_, _, ra, rb, h, o.v g rep_int⟩
    · exact o.elim
  · exact o.elim
theorem pm_fdiv (A : PM X w E a fa) (B : PM X w E b fb) : PM X w E (.BinOp a .FloorDiv b pos) (f2 dFdiv fa fb) := by
  refine pm_2 (pe_op op_fdivW A B) ?_
  intro z a b x y Q g ra rb o
  unfold dFdiv at o
  split at o
  · rw [Rep] at ra rb
    split at o
    · rename_i h
      exact ⟨_, _, ra, rb, h, o.v g rep_int⟩
    · exact o.elim
  · exact o.elim
theorem pm_pow (A : PM X w E a fa) (B : PM X w E b fb) : PM X w E (.BinOp a .Pow b pos) (f2 dPow fa fb) := by
  refine pm_2 (pe_op op_pow A B) ?_
  intro z a b x y Q g ra rb o
  unfold dPow at o
  split at o
  · rw [Rep] at ra rb
    split at o
    · rename_i h
      exact ⟨_, _, ra, rb, h, o.v g rep_int⟩
    · exact o.elim
  · exact o.elim
theorem pm_neg (A : PM X w E a fa) : PM X w E (.UnaryOp .USub a pos) (f1 dNeg fa) := by
  refine pm_1 (pe_un un_neg A) ?_
  intro z a x Q g ra o
  unfold dNeg at o
  split at o
  · rw [Rep] at ra
    exact ⟨_, ra, o.v g rep_int⟩
  · exact o.elim
/-! comparisons: an operator's rule and its function -/
structure Cmp8 (X : Cx) (w : Wd) (E : XK) (op : CmpOp) (g : D → D → M D) : Prop where
  ex : ∃ r, OpR X (compareOp op) r ∧ Does2 w E r g
theorem pm_cmp {op : CmpOp} {g : D → D → M D} (C : Cmp8 X w E op g) (A : PM X w E a fa) (B : PM X w E b fb) (hm : behindInMarks op b = false) : PM X w E (.Compare a [op] [b] pos) (f2 g fa fb) := by
  obtain ⟨r, h1, h2⟩ := C.ex
  exact pm_2 (pe_cmpR h1 A B hm) h2
theorem pmt_cm {op : CmpOp} {g : D → D → M D} (C : Cmp8 X w E op g) (A : PM X w E a fa) (B : PM X w E b fb) (hm : behindInMarks op b = false) : PMT X w E (.Compare a [op] [b] pos) (f1 dBool (f2 g fa fb)) := by
  obtain ⟨r, h1, h2⟩ := C.ex
  exact pmt_cmp (pt_cmpR h1 A B hm) h2
theorem pm_cmp2 {op op' : CmpOp} {g g' : D → D → M D} (C : Cmp8 X w E op g) (C' : Cmp8 X w E op' g') (A : PM X w E a fa) (B : PM X w E b fb) (Cc : PM X w E c fc) (hm : lastMarks [op, op'] [b, c] = false := by with_unfolding_all rfl) : PM X w E (.Compare a [op, op'] [b, c] pos) (fChain g g' fa fb fc) := by
  obtain ⟨r, h1, h2⟩ := C.ex
  obtain ⟨r', h1', h2'⟩ := C'.ex
  exact pm_chain (pe_chain h1 h1' A B Cc hm) h2 h2'
theorem pmt_cm2 {op op' : CmpOp} {g g' : D → D → M D} (C : Cmp8 X w E op g) (C' : Cmp8 X w E op' g') (A : PM X w E a fa) (B : PM X w E b fb) (Cc : PM X w E c fc) (hm : lastMarks [op, op'] [b, c] = false := by with_unfolding_all rfl) : PMT X w E (.Compare a [op, op'] [b, c] pos) (f1 dBool (fChain g g' fa fb fc)) := by
  obtain ⟨r, h1, h2⟩ := C.ex
  obtain ⟨r', h1', h2'⟩ := C'.ex
  exact pmt_chain (pt_chain h1 h1' A B Cc hm) h2 h2'
theorem c_lt : Cmp8 X w E .Lt dLt := ⟨_, opr_or op_lt op_lt_str, by
  intro z a b x y Q g ra rb o
  unfold dLt at o
  split at o
  · rw [Rep] at ra rb
    exact .inl ⟨_, _, ra, rb, o.v g rep_bl⟩
  · rw [Rep] at ra rb
    exact .inr ⟨_, _, ra, rb, o.v g rep_bl⟩
  · exact o.elim⟩
theorem c_le : Cmp8 X w E .LtE dLe := ⟨_, opr_or op_le op_le_str, by
  intro z a b x y Q g ra rb o
  unfold dLe at o
  split at o
  · rw [Rep] at ra rb
    exact .inl ⟨_, _, ra, rb, o.v g rep_bl⟩
  · rw [Rep] at ra rb
    exact .inr ⟨_, _, ra, rb, o.v g rep_bl⟩
  · exact o.elim⟩
theorem c_gt : Cmp8 X w E .Gt dGt := ⟨_, op_gt, by
  intro z a b x y Q g ra rb o
  unfold dGt at o
  split at o
  · rw [Rep] at ra rb
    exact ⟨_, _, ra, rb, o.v g rep_bl⟩
  · exact o.elim⟩
theorem c_ge : Cmp8 X w E .GtE dGe := ⟨_, op_ge, by
  intro z a b x y Q g ra rb o
  unfold dGe at o
  split at o
  · rw [Rep] at ra rb
    exact ⟨_, _, ra, rb, o.v g rep_bl⟩
  · exact o.elim⟩
mutual
theorem toPy_dp {z : Sit} : ∀ {d : D} {v : V} {p : PyData}, Rep w z d v → toPy z.S d = some p → Dp w.K z.H v p
  | .non, _, _, r, e => by rw [Rep] at r; rw [toPy] at e; cases e; rw [r]; exact .non
  | .bl b, _, _, r, e => by rw [Rep] at r; rw [toPy] at e; cases e; rw [r]; exact .bl b
  | .int b, _, _, r, e => by rw [Rep] at r; rw [toPy] at e; cases e; rw [r]; exact .int b
  | .str b, _, _, r, e => by rw [Rep] at r; rw [toPy] at e; cases e; rw [r]; exact .str b
  | .lst ds, _, _, r, e => by
    rw [Rep] at r
    rw [toPy, Option.map_eq_some_iff] at e
    obtain ⟨a, vs, rfl, _, h, r⟩ := r
    obtain ⟨ps, e, rfl⟩ := e
    exact .lst (.inl (.inl h)) (toPyL_dp r e)
  | .tup ds, _, _, r, e => by
    obtain ⟨a, vs, rfl, h, r⟩ := asT_at r rfl
    rw [toPy, Option.map_eq_some_iff] at e
    obtain ⟨ps, e, rfl⟩ := e
    exact .tup h (toPyL_dp r e)
  | .dct _, _, _, _, e => by rw [toPy] at e; cases e; all_goals (intros; contradiction)
  | .ins _ _, _, _, _, e => by rw [toPy] at e; cases e; all_goals (intros; contradiction)
  | .err _ _, _, _, _, e => by rw [toPy] at e; cases e; all_goals (intros; contradiction)
  | .cls _, _, _, _, e => by rw [toPy] at e; cases e; all_goals (intros; contradiction)
  | .ty _, _, _, _, e => by rw [toPy] at e; cases e; all_goals (intros; contradiction)
  | .loc _, _, _, _, e => by rw [toPy] at e; cases e; all_goals (intros; contradiction)
  | .scr _, _, _, _, e => by rw [toPy] at e; cases e; all_goals (intros; contradiction)
theorem toPyL_dp {z : Sit} : ∀ {ds : List D} {vs : List V} {ps : List PyData}, RepL w z ds vs → toPyL z.S ds = some ps → DpAll w.K z.H vs ps
  | [], _, _, r, e => by rw [RepL] at r; rw [toPyL] at e; cases e; rw [r]; exact .nil
  | d :: ds, _, _, r, e => by
    rw [RepL] at r
    rw [toPyL] at e
    obtain ⟨v, q, rfl, r1, r2⟩ := r
    cases h1 : toPy z.S d with
    | none => rw [h1] at e; cases e
    | some p =>
      cases h2 : toPyL z.S ds with
      | none => rw [h1, h2] at e; cases e
      | some ps =>
        rw [h1, h2] at e
        cases e
        exact .cons (toPy_dp r1 h1) (toPyL_dp r2 h2)
end
theorem pyOf_dp {z : Sit} {d : D} {v : V} {p : PyData} (g : Good w z) (r : Rep w z d v) (e : pyOf z.S d = some p) : Dp w.K z.H v p := by
  unfold pyOf at e
  split at e
  · split at e
    · rename_i h
      obtain ⟨a, vs, rfl, h1, r1⟩ := asL_at g r h
      rw [Option.map_eq_some_iff] at e
      obtain ⟨ps, e, rfl⟩ := e
      exact .lst (.inl (.inl h1)) (toPyL_dp r1 e)
    · cases e
  · exact toPy_dp r e
theorem c_eq (hK : X.K = w.K) {k : Nat} (hr : Room k X.A) : Cmp8 X w E .Eq dEq := ⟨_, opr_or op_eq (op_eqDK hK hr.units), by
  intro z a b x y Q g ra rb o
  unfold dEq dEqG at o
  split at o
  · rw [Rep] at ra rb
    subst ra rb
    exact .inl (r_eqI (by simpa using o.v g rep_bl))
  · rw [Rep] at ra rb
    subst ra rb
    exact .inl (r_eqS (by simpa using o.v g rep_bl))
  · rw [Rep] at ra rb
    subst ra rb
    exact .inl (r_eqB (by simpa using o.v g rep_bl))
  · split at o
    · split at o
      · rename_i h1 h2 h
        exact .inr ⟨_, _, pyOf_dp g ra h1, pyOf_dp g rb h2, h.1, h.2, by simpa using o.v g rep_bl⟩
      · exact o.elim
    · exact o.elim⟩
theorem c_ne (hK : X.K = w.K) {k : Nat} (hr : Room k X.A) : Cmp8 X w E .NotEq dNe := ⟨_, opr_or op_ne (op_neDK hK hr.units), by
  intro z a b x y Q g ra rb o
  unfold dNe dEqG at o
  split at o
  · rw [Rep] at ra rb
    subst ra rb
    exact .inl (r_neI (by simpa using o.v g rep_bl))
  · rw [Rep] at ra rb
    subst ra rb
    exact .inl (r_neS (by simpa using o.v g rep_bl))
  · rw [Rep] at ra rb
    subst ra rb
    exact .inl (r_neB (by simpa using o.v g rep_bl))
  · split at o
    · split at o
      · rename_i h1 h2 h
        exact .inr ⟨_, _, pyOf_dp g ra h1, pyOf_dp g rb h2, h.1, h.2, by simpa using o.v g rep_bl⟩
      · exact o.elim
    · exact o.elim⟩
theorem rep_ne_non {z : Sit} {d : D} {v : V} (r : Rep w z d v) (h : d ≠ .non) : v ≠ .non := by
  cases d with
  | non => exact absurd rfl h
  | bl _ => rw [Rep] at r; rw [r]; simp
  | int _ => rw [Rep] at r; rw [r]; simp
  | str _ => rw [Rep] at r; rw [r]; simp
  | lst _ => rw [Rep] at r; obtain ⟨a, vs, e, _⟩ := r; rw [e]; simp
  | tup _ => rw [Rep] at r; obtain ⟨a, vs, e, _⟩ := r; rw [e]; simp
  | dct _ => rw [Rep] at r; obtain ⟨a, vs, e, _⟩ := r; rw [e]; simp
  | ins _ _ => rw [Rep] at r; obtain ⟨a, dx, vs, e, _⟩ := r; rw [e]; simp
  | err _ _ => rw [Rep] at r; obtain ⟨a, dx, vs, e, _⟩ := r; rw [e]; simp
  | cls _ => rw [Rep] at r; rw [r]; simp
  | ty _ => rw [Rep] at r; rw [r]; simp
  | loc _ => rw [Rep] at r; obtain ⟨a, e, _⟩ := r; rw [e]; simp
  | scr _ => rw [Rep] at r; obtain ⟨a, e, _⟩ := r; rw [e]; simp
theorem c_isN : Cmp8 X w E .Is dIsN := ⟨_, op_isN, by
  intro z a b x y Q g ra rb o
  unfold dIsN at o
  split at o
  · rw [Rep] at ra rb
    subst ra rb
    exact ⟨rfl, o.v g rep_bl⟩
  · exact o.elim
  · rename_i h
    rw [Rep] at rb
    subst rb
    refine ⟨rfl, ?_⟩
    rw [decide_eq_false (rep_ne_non ra fun e => h e)]
    exact o.v g rep_bl
  · exact o.elim⟩
theorem c_notN : Cmp8 X w E .IsNot dNotN := ⟨_, op_notN, by
  intro z a b x y Q g ra rb o
  unfold dNotN at o
  split at o
  · rw [Rep] at ra rb
    subst ra rb
    exact ⟨rfl, o.v g rep_bl⟩
  · exact o.elim
  · rename_i h
    rw [Rep] at rb
    subst rb
    refine ⟨rfl, ?_⟩
    rw [decide_eq_false (rep_ne_non ra fun e => h e)]
    exact o.v g rep_bl
  · exact o.elim⟩
end
end Ol

namespace Ol
open PySem PySem.Spec PyProof.Rows L2
/-! ### membership, truth, subscripts, slices -/
def inS (a b : Str) : Bool := !(Builtin.Str.occurrences b a 0 b.length 1).isEmpty
def flatD : D → Option V
  | .non => some .non
  | .bl b => some (.bl b)
  | .int i => some (.int i)
  | .str s => some (.str s)
  | _ => none
def flatL : List D → Option (List V)
  | [] => some []
  | d :: ds => match flatD d, flatL ds with
    | some v, some vs => some (v :: vs)
    | _, _ => none
theorem flatD_at {w : Wd} {z : Sit} {d : D} {v u : V} (r : Rep w z d v) (e : flatD d = some u) : v = u ∧ flatV v = true := by
  cases d with
  | non => rw [Rep] at r; cases e; exact ⟨r, by rw [r]; rfl⟩
  | bl b => rw [Rep] at r; cases e; exact ⟨r, by rw [r]; rfl⟩
  | int b => rw [Rep] at r; cases e; exact ⟨r, by rw [r]; rfl⟩
  | str b => rw [Rep] at r; cases e; exact ⟨r, by rw [r]; rfl⟩
  | _ => cases e
theorem flatL_at {w : Wd} {z : Sit} : ∀ {ds : List D} {vs us : List V}, RepL w z ds vs → flatL ds = some us → vs = us ∧ vs.all flatV = true
  | [], _, _, r, e => by rw [RepL] at r; cases e; rw [r]; exact ⟨rfl, rfl⟩
  | d :: ds, _, us, r, e => by
    rw [RepL] at r
    obtain ⟨v, q, rfl, r1, r2⟩ := r
    rw [flatL] at e
    cases h1 : flatD d with
    | none => rw [h1] at e; cases e
    | some p =>
      cases h2 : flatL ds with
      | none => rw [h1, h2] at e; cases e
      | some ps =>
        rw [h1, h2] at e
        cases e
        obtain ⟨rfl, f1⟩ := flatD_at r1 h1
        obtain ⟨rfl, f2⟩ := flatL_at r2 h2
        exact ⟨rfl, by rw [List.all_cons, f1, f2]; rfl⟩
/-- x in a list or tuple of flat things, in a text -/
def dInG (neg : Bool) (a b : D) : M D := fun S => match a, b with
  | .str x, .str y => .ok (.bl (neg ^^ inS x y)) S
  | a, b => match flatD a, (match asL S b with | some ds => flatL ds | none => match asT b with | some ds => flatL ds | none => none) with
    | some x, some xs => .ok (.bl (neg ^^ inV x xs)) S
    | _, _ => .bad
abbrev dIn : D → D → M D := dInG false
abbrev dNotIn : D → D → M D := dInG true
def dTru (d : D) : M Bool := fun S => match d with
  | .non => .ok false S
  | .bl b => .ok b S
  | .int i => .ok (i != 0) S
  | .str s => if s.length ≤ big then .ok ((s.length : Int) != 0) S else .bad
  | .tup ds => .ok (!ds.isEmpty) S
  | d => match asL S d with
    | some ds => .ok (!ds.isEmpty) S
    | none => match asK S d with
      | some kvs => .ok (!kvs.isEmpty) S
      | none => .bad
def dIx (a b : D) : M D := fun S => match b with
  | .int i => match a with
    | .str s => if s.length ≤ big then (match atI s.cps.toList i with | some c => .ok (.str ⟨#[c]⟩) S | none => .bad) else .bad
    | .tup ds => (match atI ds i with | some d => .ok d S | none => .bad)
    | a => match asL S a with
      | some ds => (match atI ds i with | some d => .ok d S | none => .bad)
      | none => .bad
  | _ => .bad
def cutD (xs : List D) (lo hi : Option Int) : List D := (xs.drop (HT.sIx xs.length 0 lo)).take (HT.sIx xs.length xs.length hi - HT.sIx xs.length 0 lo)
def dSl (a : D) (lo hi : Option Int) : M D := fun S => match a with
  | .str s => if s.length ≤ big then .ok (.str (cutS s lo hi)) S else .bad
  | .tup ds => .ok (.tup (cutD ds lo hi)) S
  | .scr ns => .ok (.lst (cutD (ns.map .int) lo hi)) S
  | a => match asL S a with
    | some ds => .ok (.lst (cutD ds lo hi)) S
    | none => .bad
def dPart : D → M (Option Int)
  | .int i => M.ret (some i)
  | _ => M.bad
def fSl (fa : Env8 → M D) (fl fh : Env8 → M (Option Int)) : Env8 → M D := fun env => (fa env).bnd fun x => (fl env).bnd fun l => (fh env).bnd fun h => dSl x l h
def fLst (fs : Env8 → M (List D)) : Env8 → M D := fun env => (fs env).bnd fun ds => if ds.length ≤ big then M.ret (.lst ds) else M.bad
def fTup (fs : Env8 → M (List D)) : Env8 → M D := fun env => (fs env).bnd fun ds => if ds.length ≤ big then M.ret (.tup ds) else M.bad
/-- a list that may be written -/
def fLstM (fs : Env8 → M (List D)) : Env8 → M D := fun env => (fs env).bnd fun ds => if ds.length ≤ big then (fun S => .ok (.loc S.length) (S ++ [.lst ds])) else M.bad
section
variable {X : Cx} {w : Wd} {E : XK} {e a b c : Expr} {fa fb fc : Env8 → M D} {pos : Pos}
theorem RepL.isEmpty {z : Sit} {ds : List D} {vs : List V} (r : RepL w z ds vs) : ds.isEmpty = vs.isEmpty := by
  cases ds with
  | nil => rw [RepL] at r; rw [r]; rfl
  | cons d ds => rw [RepL] at r; obtain ⟨v, q, rfl, _⟩ := r; rfl
theorem RepK.isEmpty {z : Sit} {ds : List (Key × D)} {vs : List (Key × V)} (r : RepK w z ds vs) : ds.isEmpty = vs.isEmpty := by
  cases ds with
  | nil => rw [RepK] at r; rw [r]; rfl
  | cons d ds => obtain ⟨k, d⟩ := d; rw [RepK] at r; obtain ⟨v, q, rfl, _⟩ := r; rfl
theorem c_in (hK : X.K = w.K) : Cmp8 X w E .In dIn := ⟨_, opr_or op_in_str (op_inK hK), by
  intro z a b x y Q g ra rb o
  unfold dIn dInG at o
  split at o
  · rw [Rep] at ra rb
    exact .inl ⟨_, _, ra, rb, by simpa [inS] using o.v g rep_bl⟩
  · split at o
    · rename_i h1 h2
      obtain ⟨rfl, f1⟩ := flatD_at ra h1
      refine .inr ?_
      split at h2
      · rename_i h3
        obtain ⟨p, vs, rfl, h4, r4⟩ := asL_at g rb h3
        obtain ⟨rfl, f2⟩ := flatL_at r4 h2
        exact ⟨p, _, rfl, .inl (.inl (.inl h4)), f1, f2, by simpa using o.v g rep_bl⟩
      · split at h2
        · rename_i h3
          obtain ⟨p, vs, rfl, h4, r4⟩ := asT_at rb h3
          obtain ⟨rfl, f2⟩ := flatL_at r4 h2
          exact ⟨p, _, rfl, .inr h4, f1, f2, by simpa using o.v g rep_bl⟩
        · cases h2
    · exact o.elim⟩
theorem c_notIn (hK : X.K = w.K) : Cmp8 X w E .NotIn dNotIn := ⟨_, opr_or op_notin_str (op_notInK hK), by
  intro z a b x y Q g ra rb o
  unfold dNotIn dInG at o
  split at o
  · rw [Rep] at ra rb
    exact .inl ⟨_, _, ra, rb, by simpa [inS] using o.v g rep_bl⟩
  · split at o
    · rename_i h1 h2
      obtain ⟨rfl, f1⟩ := flatD_at ra h1
      refine .inr ?_
      split at h2
      · rename_i h3
        obtain ⟨p, vs, rfl, h4, r4⟩ := asL_at g rb h3
        obtain ⟨rfl, f2⟩ := flatL_at r4 h2
        exact ⟨p, _, rfl, .inl (.inl (.inl h4)), f1, f2, by simpa using o.v g rep_bl⟩
      · split at h2
        · rename_i h3
          obtain ⟨p, vs, rfl, h4, r4⟩ := asT_at rb h3
          obtain ⟨rfl, f2⟩ := flatL_at r4 h2
          exact ⟨p, _, rfl, .inr h4, f1, f2, by simpa using o.v g rep_bl⟩
        · cases h2
    · exact o.elim⟩
theorem pmt_truth (hK : X.K = w.K) (A : PM X w E a fa) (he : ∀ whole, isTrue a X.env whole = (do let v ← whole; standAt a.pos; holding [v] (truthy v)) := by intro _; rfl) : PMT X w E a (f1 dTru fa) := (pt_truth A he).wk fun σ H Q ⟨env, z, eH, G, re, o⟩ => by
  rw [hK]
  refine ⟨env, z, eH, G, re, (Out.bnd o).imp fun d z1 x1 g1 o1 v rv => ?_⟩
  have fin : ∀ b : Bool, Out w z1 (.ok b z1.S) (fun b z' => Q b z'.H) E → Q b z1.H := fun b h => h z1 rfl (Ex.refl _) g1
  unfold dTru at o1
  split at o1
  · rw [Rep] at rv; exact ⟨_, by rw [rv]; rfl, fin _ o1⟩
  · rw [Rep] at rv; exact ⟨_, by rw [rv]; rfl, fin _ o1⟩
  · rw [Rep] at rv; exact ⟨_, by rw [rv]; rfl, fin _ o1⟩
  · rw [Rep] at rv
    split at o1
    · rename_i h
      exact ⟨_, by rw [rv]; exact ⟨big_le h, rfl⟩, fin _ o1⟩
    · exact o1.elim
  · obtain ⟨p, vs, rfl, h4, r4⟩ := asT_at rv rfl
    exact ⟨_, .inr (.inl ⟨vs, h4, by rw [r4.isEmpty]⟩), fin _ o1⟩
  · split at o1
    · rename_i h
      obtain ⟨p, vs, rfl, h4, r4⟩ := asL_at g1 rv h
      exact ⟨_, .inl ⟨vs, .inl (.inl h4), by rw [r4.isEmpty]⟩, fin _ o1⟩
    · split at o1
      · rename_i h
        obtain ⟨p, vs, rfl, h4, r4⟩ := asK_at g1 rv h
        exact ⟨_, .inr (.inr ⟨vs, h4, by rw [r4.isEmpty]⟩), fin _ o1⟩
      · exact o1.elim
theorem RepL.atI {z : Sit} {ds : List D} {vs : List V} {i : Int} {d : D} (r : RepL w z ds vs) (e : atI ds i = some d) : ∃ v, L2.atI vs i = some v ∧ Rep w z d v := by
  unfold L2.atI at e ⊢
  rw [← r.length]
  cases h : ixN ds.length i with
  | none => rw [h] at e; cases e
  | some j =>
    rw [h] at e
    exact r.get e
theorem ix_all (hK : X.K = w.K) : IxR X (alt2 (rIxL w.K) (alt2 (rIxT w.K) rIxS)) := ixr_or (ix_listK hK) (ixr_or (ix_tupK hK) ix_str)
theorem pm_ix (hK : X.K = w.K) (A : PM X w E a fa) (B : PM X w E b fb) (hs : PlainIx b) : PM X w E (.Subscript a b pos) (f2 dIx fa fb) := by
  refine pm_2 (pe_ix (ix_all hK) A B hs) ?_
  intro z a b x y Q g ra rb o
  have fin : ∀ {d : D} {v : V}, Out w z (.ok d z.S) (PQ w Q) E → Rep w z d v → Q v z.H := fun o r => o z rfl (Ex.refl _) g _ r
  unfold dIx at o
  split at o
  · rw [Rep] at rb
    split at o
    · split at o
      · rename_i h
        split at o
        · rename_i h2
          rw [Rep] at ra
          exact .inr (.inr ⟨_, _, _, ra, rb, big_le h, h2, fin o rep_str⟩)
        · exact o.elim
      · exact o.elim
    · split at o
      · rename_i h2
        obtain ⟨p, vs, e1, h4, r4⟩ := asT_at ra rfl
        obtain ⟨v, h5, r5⟩ := r4.atI h2
        exact .inr (.inl ⟨p, vs, _, v, e1, rb, h4, h5, fin o r5⟩)
      · exact o.elim
    · split at o
      · rename_i h3
        split at o
        · rename_i h2
          obtain ⟨p, vs, e1, h4, r4⟩ := asL_at g ra h3
          obtain ⟨v, h5, r5⟩ := r4.atI h2
          exact .inl ⟨p, vs, _, v, e1, rb, .inl (.inl h4), h5, fin o r5⟩
        · exact o.elim
      · exact o.elim
  · exact o.elim
theorem sl_listK (hK : X.K = w.K) : SlR X (rSlL w.K) := by rw [← hK]; exact sl_list
theorem sl_tupAK (hK : X.K = w.K) : SlR X (rSlA w.K) := by rw [← hK]; exact sl_tupA
abbrev PMO (X : Cx) (w : Wd) (E : XK) (e : Option Expr) (f : Env8 → M (Option Int)) : Prop := PO X e (fun σ H Q => ∃ (env : Env8) (z : Sit), z.H = H ∧ Good w z ∧ REnv w z env σ ∧ Out w z (f env z.S) (fun d z' => Q d z'.H) E)
theorem pmo_none : PMO X w E none (fun _ => M.ret none) := ⟨fun pins s σ H Q I ⟨env, z, eH, G, re, o⟩ => po_none.run pins s σ H Q I (by subst eH; exact Out.ret o G rfl)⟩
theorem pmo_some (A : PM X w E a fa) : PMO X w E (some a) (f1 dPart fa) := ⟨fun pins s σ H Q I ⟨env, z, eH, G, re, o⟩ => (po_some A).run pins s σ H Q I ⟨env, z, eH, G, re, (Out.bnd o).imp fun d z1 x1 g1 o1 v rv => by
  unfold dPart at o1
  split at o1
  · rw [Rep] at rv
    exact ⟨_, rv, Out.ret o1 g1 rfl⟩
  · exact o1.elim⟩⟩
theorem pm_sl (hK : X.K = w.K) {lo hi : Option Expr} {fl fh : Env8 → M (Option Int)} {p2 : Pos} (A : PM X w E a fa) (L : PMO X w E lo fl) (Hh : PMO X w E hi fh) : PM X w E (.Subscript a (.Slice lo hi none p2) pos) (fSl fa fl fh) := by
  refine (pe_slice (SlR.or (sl_listK hK) (SlR.or (sl_tupAK hK) sl_str)) A L Hh).wk fun σ H Q ⟨env, z, eH, G, re, o⟩ => ?_
  refine ⟨env, z, eH, G, re, (Out.bnd o).imp fun d z1 x1 g1 o1 x rx => ⟨env, z1, rfl, g1, re.mono x1.vx, (Out.bnd o1).imp fun l z2 x2 g2 o2 => ⟨env, z2, rfl, g2, (re.mono x1.vx).mono x2.vx, (Out.bnd o2).imp fun h z3 x3 g3 o3 => ?_⟩⟩⟩
  have rx := (rx.mono x2.vx).mono x3.vx
  have cut : ∀ {ds : List D} {vs : List V}, RepL w z3 ds vs → RepL w z3 (cutD ds l h) (cutV vs l h) := fun {ds vs} r => by
    unfold cutD cutV
    rw [r.length]
    exact (r.drop _).take _
  unfold dSl at o3
  split at o3
  · split at o3
    · rename_i hb
      rw [Rep] at rx
      exact .inr (.inr ⟨_, rx, big_le hb, o3 z3 rfl (Ex.refl _) g3 _ rep_str⟩)
    · exact o3.elim
  · have rx' := rx
    obtain ⟨p, vs, e1, h4, r4⟩ := asT_at rx rfl
    subst e1
    refine .inr (.inl ⟨p, vs, rfl, h4, fun hw => ?_, fun _ q hq => new_tup g3 (cut r4) o3 q hq⟩)
    refine o3 z3 rfl (Ex.refl _) g3 _ ?_
    have e2 : ∀ {ds : List D}, RepL w z3 ds vs → cutD ds l h = ds := fun {ds} r4 => by
      unfold cutD
      rw [r4.length, hw.1, hw.2, List.drop_zero, Nat.sub_zero, ← r4.length, List.take_length]
    rw [e2 r4]
    exact rx'
  · rw [Rep] at rx
    obtain ⟨p, e1, h4⟩ := rx
    refine .inl ⟨p, _, e1, ?_, fun q hq => new_lst g3 (cut (RepL.mkInts _)) o3 q hq⟩
    rcases h4 with ⟨_, h4⟩ | h4
    · exact .inl h4
    · exact .inr h4
  · split at o3
    · rename_i h3
      obtain ⟨p, vs, e1, h4, r4⟩ := asL_at g3 rx h3
      exact .inl ⟨p, vs, e1, .inl (.inl h4), fun q hq => new_lst g3 (cut r4) o3 q hq⟩
    · exact o3.elim
/-! displays -/
variable {es : List Expr} {fs : Env8 → M (List D)}
theorem pm_lst (A : PMA X w E es fs) : PM X w E (.List es pos) (fLst fs) := (pe_lst A).wk fun σ H Q ⟨env, z, eH, G, re, o⟩ => ⟨env, z, eH, G, re, (Out.bnd o).imp fun ds z1 x1 g1 o1 vs rv => by
  split at o1
  · rename_i h
    exact ⟨big_le (by rw [← rv.length]; exact h), new_lst g1 rv o1⟩
  · exact o1.elim⟩
theorem pm_lstM (A : PMA X w E es fs) : PM X w E (.List es pos) (fLstM fs) := (pe_lst A).wk fun σ H Q ⟨env, z, eH, G, re, o⟩ => ⟨env, z, eH, G, re, (Out.bnd o).imp fun ds z1 x1 g1 o1 vs rv => by
  split at o1
  · rename_i h
    exact ⟨big_le (by rw [← rv.length]; exact h), new_loc g1 rv o1⟩
  · exact o1.elim⟩
theorem pm_tup {k} (A : PMA X w E es fs) : PM X w E (.Tuple es k pos) (fTup fs) := (pe_tup A).wk fun σ H Q ⟨env, z, eH, G, re, o⟩ => ⟨env, z, eH, G, re, (Out.bnd o).imp fun ds z1 x1 g1 o1 vs rv => by
  split at o1
  · rename_i h
    exact ⟨big_le (by rw [← rv.length]; exact h), new_tup g1 rv o1⟩
  · exact o1.elim⟩
end
/-! ### targets -/
inductive Pat where
  | nm (i : Nat) | tp (ps : List Pat)
def asSq (S : Store) (d : D) : Option (List D) := match asT d with
  | some ds => some ds
  | none => asL S d
mutual
def bindP (S : Store) : Pat → D → Env8 → Option Env8
  | .nm i, d, env => some (env.set i (some d))
  | .tp ps, d, env => match asSq S d with
    | some ds => bindPs S ps ds env
    | none => none
def bindPs (S : Store) : List Pat → List D → Env8 → Option Env8
  | [], [], env => some env
  | p :: ps, d :: ds, env => match bindP S p d env with
    | some env' => bindPs S ps ds env'
    | none => none
  | _, _, _ => none
end
mutual
def tgP (K : PySem.W.Frag) : Pat → TG
  | .nm i => gName i
  | .tp ps => fun v σ H Q => gTup K ps.length (tgPs K ps) v σ H Q ∨ gUnl K ps.length (tgPs K ps) v σ H Q
def tgPs (K : PySem.W.Frag) : List Pat → TGs
  | [] => gNil
  | p :: ps => gCons (tgP K p) (tgPs K ps)
end
mutual
def Pat.slots : Pat → List Nat
  | .nm i => [i]
  | .tp ps => Pat.slotss ps
def Pat.slotss : List Pat → List Nat
  | [] => []
  | p :: ps => p.slots ++ Pat.slotss ps
end
/-- two rows of slots that differ at some places only -/
def Off (is : List Nat) (σ σ' : L2.St) : Prop := σ'.length = σ.length ∧ ∀ j, j ∉ is → σ'[j]? = σ[j]?
theorem Off.refl (is : List Nat) (σ : L2.St) : Off is σ σ := ⟨rfl, fun _ _ => rfl⟩
theorem Off.trans {is : List Nat} {a b c : L2.St} (x : Off is a b) (y : Off is b c) : Off is a c := ⟨y.1.trans x.1, fun j h => (y.2 j h).trans (x.2 j h)⟩
theorem Off.wipe {is : List Nat} {σ σ' : L2.St} (h : Off is σ σ') {vs : List Nat} (hv : ∀ i ∈ is, i ∈ vs) : L2.wipe σ' vs = L2.wipe σ vs := by
  apply List.ext_getElem?
  intro j
  by_cases hj : j ∈ vs
  · have e : ∀ s : L2.St, j < s.length → (L2.wipe s vs)[j]? = some none := fun s hs => by
      cases q : (L2.wipe s vs)[j]? with
      | none => have := List.getElem?_eq_none_iff.mp q; rw [wipe_length] at this; omega
      | some x =>
        cases x with
        | none => rfl
        | some v => exact absurd hj (wipe_some q).2
    by_cases hl : j < σ.length
    · rw [e σ hl, e σ' (by rw [h.1]; exact hl)]
    · rw [List.getElem?_eq_none (by rw [wipe_length, h.1]; omega), List.getElem?_eq_none (by rw [wipe_length]; omega)]
  · rw [wipe_out hj, wipe_out hj]
    exact h.2 j fun q => hj (hv j q)
section
variable {w : Wd} {z : Sit}
theorem asSq_at {d : D} {v : V} {ds : List D} (g : Good w z) (r : Rep w z d v) (e : asSq z.S d = some ds) : ∃ a vs, v = .ref a ∧ (SqT w.K z.H a vs ∨ SqL w.K z.H a vs) ∧ RepL w z ds vs := by
  unfold asSq at e
  split at e
  · cases e
    rename_i h
    obtain ⟨a, vs, h1, h2, h3⟩ := asT_at r h
    exact ⟨a, vs, h1, .inl h2, h3⟩
  · obtain ⟨a, vs, h1, h2, h3⟩ := asL_at g r e
    exact ⟨a, vs, h1, .inr (.inl (.inl h2)), h3⟩
theorem bindPs_len {S : Store} : ∀ {ps : List Pat} {ds : List D} {env env' : Env8}, bindPs S ps ds env = some env' → ds.length = ps.length
  | [], [], _, _, _ => rfl
  | p :: ps, d :: ds, env, env', e => by
    rw [bindPs] at e
    split at e
    · simp [bindPs_len e]
    · cases e
  | [], _ :: _, _, _, e => by rw [bindPs] at e; cases e; all_goals (intros; contradiction)
  | _ :: _, [], _, _, e => by rw [bindPs] at e; cases e; all_goals (intros; contradiction)
mutual
theorem bindP_at (g : Good w z) : ∀ {p : Pat} {d : D} {v : V} {env env' : Env8} {σ : L2.St} {Q : L2.St → Hp → Prop} {is : List Nat}, Rep w z d v → REnv w z env σ → bindP z.S p d env = some env' → (∀ i ∈ p.slots, i ∈ is) → (∀ σ', REnv w z env' σ' → Off is σ σ' → Q σ' z.H) → tgP w.K p v σ z.H Q
  | .nm i, d, v, env, env', σ, Q, is, r, re, e, hi, q => by
    rw [bindP] at e
    cases e
    rw [tgP]
    refine q _ (re.set r) ⟨by simp, fun j hj => ?_⟩
    rw [List.getElem?_set_ne fun e : i = j => hj (by rw [← e]; exact hi i (by rw [Pat.slots]; simp))]
  | .tp ps, d, v, env, env', σ, Q, is, r, re, e, hi, q => by
    rw [bindP] at e
    split at e
    · rename_i h
      obtain ⟨a, vs, h1, h2, h3⟩ := asSq_at g r h
      obtain ⟨hl, ht⟩ := bindPs_at g (Q := Q) (is := is) h3 re e (by rw [Pat.slots] at hi; exact hi) q
      rw [tgP]
      rcases h2 with h2 | h2
      · exact .inl ⟨a, vs, h1, h2, hl, ht⟩
      · exact .inr ⟨a, vs, h1, h2, hl, ht⟩
    · cases e
theorem bindPs_at (g : Good w z) : ∀ {ps : List Pat} {ds : List D} {vs : List V} {env env' : Env8} {σ : L2.St} {Q : L2.St → Hp → Prop} {is : List Nat}, RepL w z ds vs → REnv w z env σ → bindPs z.S ps ds env = some env' → (∀ i ∈ Pat.slotss ps, i ∈ is) → (∀ σ', REnv w z env' σ' → Off is σ σ' → Q σ' z.H) → vs.length = ps.length ∧ tgPs w.K ps vs σ z.H Q
  | [], [], vs, env, env', σ, Q, is, r, re, e, hi, q => by
    rw [bindPs] at e
    cases e
    rw [RepL] at r
    subst r
    rw [tgPs]
    exact ⟨rfl, rfl, q σ re (Off.refl _ _)⟩
  | p :: ps, d :: ds, vs, env, env', σ, Q, is, r, re, e, hi, q => by
    rw [bindPs] at e
    split at e
    · rename_i env1 h
      rw [RepL] at r
      obtain ⟨v, us, rfl, r1, r2⟩ := r
      rw [Pat.slotss] at hi
      have hl : us.length = ps.length := r2.length.symm.trans (bindPs_len e)
      rw [tgPs]
      refine ⟨by simp [hl], v, us, rfl, ?_⟩
      refine bindP_at g (is := is) r1 re h (fun i hm => hi i (List.mem_append_left _ hm)) fun σ' re' off => ?_
      exact (bindPs_at g (is := is) r2 re' e (fun i hm => hi i (List.mem_append_right _ hm)) fun σ2 re2 off2 => q σ2 re2 (off.trans off2)).2
    · cases e
  | [], _ :: _, _, _, _, _, _, _, _, _, e, _, _ => by rw [bindPs] at e; cases e; all_goals (intros; contradiction)
  | _ :: _, [], _, _, _, _, _, _, _, _, e, _, _ => by rw [bindPs] at e; cases e; all_goals (intros; contradiction)
end
end
end Ol

namespace Ol
open PySem PySem.Spec PyProof.Rows L2
/-! ### targets -/
section
variable {X : Cx} {w : Wd} {E : XK} {pos : Pos}
abbrev PGM (X : Cx) (w : Wd) (tg : Expr) (p : Pat) : Prop := PG X tg (tgP w.K p)
abbrev PGMs (X : Cx) (w : Wd) (tg : List Expr) (p : List Pat) : Prop := PGs X tg (tgPs w.K p)
theorem pgm_nm {i : Nat} {x : Str} (hN : X.N.Nodup) (hi : X.N[i]? = some x) (hx : Loc X.env.scope x) (hf : X.fn x = true ∨ X.env.scope.names.lookup x = some .local := by first | exact .inl rfl | exact .inr rfl | assumption) : PGM X w (.Name x pos) (.nm i) := by
  show PG _ _ (tgP w.K (.nm i))
  rw [tgP]
  exact pg_name hN hi hx hf
theorem pgms_nil : PGMs X w [] [] := by
  show PGs _ _ (tgPs w.K [])
  rw [tgPs]
  exact pgs_nil
theorem pgms_cons {e : Expr} {es : List Expr} {p : Pat} {ps : List Pat} (h1 : PGM X w e p) (h2 : PGMs X w es ps) (hs : (assignEach (e :: es) X.env).map (·.2) = assign e X.env :: (assignEach es X.env).map (·.2) := by rfl) : PGMs X w (e :: es) (p :: ps) := by
  show PGs _ _ (tgPs w.K (p :: ps))
  rw [tgPs]
  exact pgs_cons h1 h2 hs
theorem pgm_tp {es : List Expr} {k : Nat} {ps : List Pat} (hK : X.K = w.K) (hc : X.calm = true) (h : PGMs X w es ps) (hn : (assignEach es X.env).length = ps.length := by rfl) (hst : (assignEach es X.env).findIdx? (·.1) = none := by rfl) : PGM X w (.Tuple es k pos) (.tp ps) := by
  show PG _ _ (tgP w.K (.tp ps))
  rw [tgP]
  have h1 := pg_tup (k := k) (pos := pos) hc h hn hst
  have h2 := pg_unl (k := k) (pos := pos) hc h hn hst
  rw [hK] at h1 h2
  refine ⟨fun pins s σ H v u Q I r hw => ?_⟩
  rcases hw with hw | hw
  · exact h1.run pins s σ H v u Q I r hw
  · exact h2.run pins s σ H v u Q I r hw
end
/-! ### statements -/
def sRet (fa : Env8 → M D) : Env8 → M Fl := fun env => (fa env).bnd fun d => M.ret (.rt d)
def sRetN : Env8 → M Fl := fun _ => M.ret (.rt .non)
def sDrop (fa : Env8 → M D) : Env8 → M Fl := fun env => (fa env).bnd fun _ => M.ret (.nx env)
def sNext : Env8 → M Fl := fun env => M.ret (.nx env)
def sBrk : Env8 → M Fl := fun env => M.ret (.bk env)
def sCnt : Env8 → M Fl := fun env => M.ret (.ct env)
def sSeq (s t : Env8 → M Fl) : Env8 → M Fl := fun env => (s env).bnd fun r => match r with
  | .nx e => t e
  | r => M.ret r
def bindM (p : Pat) (d : D) (env : Env8) : M Env8 := fun S => match bindP S p d env with
  | some e => .ok e S
  | none => .bad
def sAsg (p : Pat) (fa : Env8 → M D) : Env8 → M Fl := fun env => (fa env).bnd fun d => (bindM p d env).bnd fun e => M.ret (.nx e)
def loopF (p : Pat) (body : Env8 → M Fl) : List D → Env8 → M Fl
  | [], env => M.ret (.nx env)
  | d :: ds, env => (bindM p d env).bnd fun e => (body e).bnd fun r => match r with
    | .nx e => loopF p body ds e
    | .ct e => loopF p body ds e
    | .bk e => M.ret (.nx e)
    | .rt d => M.ret (.rt d)
def sFor (fi : Env8 → M (List D)) (p : Pat) (body : Env8 → M Fl) : Env8 → M Fl := fun env => (fi env).bnd fun ds => loopF p body ds env
def loopW (t : Env8 → M Bool) (body : Env8 → M Fl) : Nat → Env8 → M Fl
  | 0, _ => M.bad
  | n + 1, env => (t env).bnd fun b => if b = true then (body env).bnd fun r => match r with
    | .nx e => loopW t body n e
    | .ct e => loopW t body n e
    | .bk e => M.ret (.nx e)
    | .rt d => M.ret (.rt d)
    else M.ret (.nx env)
def sPar (i j : Nat) (fs : Env8 → M (List D)) : Env8 → M Fl := fun env => (fs env).bnd fun ds => match ds with
  | [a, b] => M.ret (.nx ((env.set i (some a)).set j (some b)))
  | _ => M.bad
def sPar3 (i j l : Nat) (fs : Env8 → M (List D)) : Env8 → M Fl := fun env => (fs env).bnd fun ds => match ds with
  | [a, b, c] => M.ret (.nx (((env.set i (some a)).set j (some b)).set l (some c)))
  | _ => M.bad
section
variable {X : Cx} {w : Wd} {E : XK} {e a b c : Expr} {fa fb fc : Env8 → M D} {pos : Pos} {st : Stmt} {sts : List Stmt} {s t : Env8 → M Fl} {p : Env8 → M Bool}
theorem pms_ret (A : PM X w E a fa) : PMS X w E (.Return (some a) pos) (sRet fa) := (ps_ret A).wk fun De σ H ⟨env, z, eH, G, re, o⟩ => ⟨env, z, eH, G, re, (Out.bnd o).imp fun d z1 x1 g1 o1 v rv => (Out.ret o1 g1 rfl) v rv⟩
theorem pms_retN : PMS X w E (.Return none pos) sRetN := ps_retN.wk fun De σ H ⟨env, z, eH, G, re, o⟩ => by
  subst eH
  exact (Out.ret o G rfl) .non rep_non
theorem pms_expr (A : PM X w E a fa) (hs : swapsWith a none pos.line X.env = pure false := by rfl) : PMS X w E (.Expr a pos) (sDrop fa) := (ps_expr A hs).wk fun De σ H ⟨env, z, eH, G, re, o⟩ => ⟨env, z, eH, G, re, (Out.bnd o).imp fun d z1 x1 g1 o1 v rv => (Out.ret o1 g1 rfl) σ (re.mono x1.vx)⟩
theorem pms_pass : PMS X w E (.Pass pos) sNext := ps_pass.wk fun De σ H ⟨env, z, eH, G, re, o⟩ => by
  subst eH
  exact (Out.ret o G rfl) σ re
theorem pms_break : PMS X w E (.Break pos) sBrk := ps_break.wk fun De σ H ⟨env, z, eH, G, re, o⟩ => by
  subst eH
  exact (Out.ret o G rfl) σ re
theorem pms_continue : PMS X w E (.Continue pos) sCnt := ps_continue.wk fun De σ H ⟨env, z, eH, G, re, o⟩ => by
  subst eH
  exact (Out.ret o G rfl) σ re
theorem pms_if {xs ys : List Stmt} (P : PMT X w E c p) (A : PMSs X w E xs s) (B : PMSs X w E ys t) : PMS X w E (.If c xs ys pos) (fIf p s t) := (ps_if P A B).wk fun De σ H ⟨env, z, eH, G, re, o⟩ => ⟨env, z, eH, G, re, (Out.bnd o).imp fun b z1 x1 g1 o1 => by
  cases b with
  | true => exact iteT ⟨env, z1, rfl, g1, re.mono x1.vx, o1⟩
  | false => exact iteF ⟨env, z1, rfl, g1, re.mono x1.vx, o1⟩⟩
theorem pmss_nil : PMSs X w E [] sNext := pss_nil.wk fun De σ H ⟨env, z, eH, G, re, o⟩ => by
  subst eH
  exact (Out.ret o G rfl) σ re
theorem pmss_cons (A : PMS X w E st s) (B : PMSs X w E sts t) : PMSs X w E (st :: sts) (sSeq s t) := (pss_cons A B).wk fun De σ H ⟨env, z, eH, G, re, o⟩ => ⟨env, z, eH, G, re, (Out.bnd o).imp fun r z1 x1 g1 o1 => by
  cases r with
  | nx e => exact fun σ' re' => ⟨e, z1, rfl, g1, re', o1⟩
  | rt d => exact (show FlP w De (.rt d) z1 from Out.ret (E := E) o1 g1 rfl)
  | bk e => exact (show FlP w De (.bk e) z1 from Out.ret (E := E) o1 g1 rfl)
  | ct e => exact (show FlP w De (.ct e) z1 from Out.ret (E := E) o1 g1 rfl)⟩
theorem pmss_one (A : PMS X w E st s) : PMSs X w E [st] s := pss_one A
theorem tg_at {z : Sit} {p : Pat} {d : D} {v : V} {env : Env8} {σ : L2.St} {R : L2.St → Hp → Prop} {P : Env8 → Sit → Prop} (g : Good w z) (r : Rep w z d v) (re : REnv w z env σ) (o : Out w z (bindM p d env z.S) P E) (h : ∀ e σ', REnv w z e σ' → P e z → Off p.slots σ σ' → R σ' z.H) : tgP w.K p v σ z.H R := by
  unfold bindM at o
  split at o
  · rename_i e he
    exact bindP_at g (is := p.slots) r re he (fun _ hm => hm) fun σ' re' off => h e σ' re' (o z rfl (Ex.refl _) g) off
  · exact o.elim
theorem pms_asg {tg : Expr} {p : Pat} (A : PM X w E a fa) (G : PGM X w tg p) (hs : swapsWithSole [tg] a pos.line X.env = pure false := by rfl) (hw : swappedStores [tg] a X.env = pure none := by rfl) (h1 : (assignEach [tg] X.env).map (·.2) = [assign tg X.env] := by rfl) : PMS X w E (.Assign [tg] a pos) (sAsg p fa) := (ps_asg A G hs hw h1).wk fun De σ H ⟨env, z, eH, G, re, o⟩ => ⟨env, z, eH, G, re, (Out.bnd o).imp fun d z1 x1 g1 o1 v rv =>
  tg_at g1 rv (re.mono x1.vx) (Out.bnd o1) fun e σ' re' q _ => (Out.ret q g1 rfl) σ' re'⟩
theorem pms_set {i : Nat} {x : Str} {pos' : Pos} (hN : X.N.Nodup) (hi : X.N[i]? = some x) (hx : Loc X.env.scope x) (A : PM X w E a fa) (hs : swapsWith a (some (.Name x pos')) pos.line X.env = pure false := by rfl) (hf : X.fn x = true ∨ X.env.scope.names.lookup x = some .local := by first | exact .inl rfl | exact .inr rfl | assumption) : PMS X w E (.Assign [.Name x pos'] a pos) (sAsg (.nm i) fa) := (ps_set hN hi hx A hs hf).wk fun De σ H ⟨env, z, eH, G, re, o⟩ => ⟨env, z, eH, G, re, (Out.bnd o).imp fun d z1 x1 g1 o1 v rv => by
  have := tg_at (R := De.nx) g1 rv (re.mono x1.vx) (Out.bnd o1) fun e σ' re' q _ => (Out.ret q g1 rfl) σ' re'
  rw [tgP] at this
  exact this⟩
theorem pms_par {i j : Nat} {x y : Str} {px py pt : Pos} {kt k2 pt2} {fs : Env8 → M (List D)} (hc : X.calm = true) (hN : X.N.Nodup) (hi : X.N[i]? = some x) (hj : X.N[j]? = some y) (hij : i ≠ j) (hx : X.env.scope.names.lookup x = some .local) (hy : X.env.scope.names.lookup y = some .local) (A : PMA X w E [a, b] fs)
    (hw : swappedStores [.Tuple [.Name x px, .Name y py] kt pt] (.Tuple [a, b] k2 pt2) X.env = pure (some [x, y])) (hs : swapsWithSole [.Tuple [.Name x px, .Name y py] kt pt] (.Tuple [a, b] k2 pt2) pos.line X.env = pure false := by rfl) :
    PMS X w E (.Assign [.Tuple [.Name x px, .Name y py] kt pt] (.Tuple [a, b] k2 pt2) pos) (sPar i j fs) := (ps_par hc hN hi hj hij hx hy A hw hs).wk fun De σ H ⟨env, z, eH, G, re, o⟩ => ⟨env, z, eH, G, re, (Out.bnd o).imp fun ds z1 x1 g1 o1 vs rv => by
  split at o1
  · rw [RepL] at rv
    obtain ⟨v, r, rfl, r1, rv⟩ := rv
    rw [RepL] at rv
    obtain ⟨u, r, rfl, r2, rv⟩ := rv
    rw [RepL] at rv
    subst rv
    exact ⟨v, u, rfl, (Out.ret o1 g1 rfl) _ (((re.mono x1.vx).set r1).set r2)⟩
  · exact o1.elim⟩
theorem pms_par3 {i j l : Nat} {x y q : Str} {px py pz pt : Pos} {kt k2 pt2} {fs : Env8 → M (List D)} (hc : X.calm = true) (hN : X.N.Nodup) (hi : X.N[i]? = some x) (hj : X.N[j]? = some y) (hl : X.N[l]? = some q) (hij : i ≠ j) (hil : i ≠ l) (hjl : j ≠ l) (hx : X.env.scope.names.lookup x = some .local) (hy : X.env.scope.names.lookup y = some .local) (hq : X.env.scope.names.lookup q = some .local) (A : PMA X w E [a, b, c] fs)
    (hw : swappedStores [.Tuple [.Name x px, .Name y py, .Name q pz] kt pt] (.Tuple [a, b, c] k2 pt2) X.env = pure (some [x, y, q])) (hs : swapsWithSole [.Tuple [.Name x px, .Name y py, .Name q pz] kt pt] (.Tuple [a, b, c] k2 pt2) pos.line X.env = pure false := by rfl) :
    PMS X w E (.Assign [.Tuple [.Name x px, .Name y py, .Name q pz] kt pt] (.Tuple [a, b, c] k2 pt2) pos) (sPar3 i j l fs) := (ps_par3 hc hN hi hj hl hij hil hjl hx hy hq A hw hs).wk fun De σ H ⟨env, z, eH, G, re, o⟩ => ⟨env, z, eH, G, re, (Out.bnd o).imp fun ds z1 x1 g1 o1 vs rv => by
  split at o1
  · rw [RepL] at rv
    obtain ⟨v, r, rfl, r1, rv⟩ := rv
    rw [RepL] at rv
    obtain ⟨u, r, rfl, r2, rv⟩ := rv
    rw [RepL] at rv
    obtain ⟨t, r, rfl, r3, rv⟩ := rv
    rw [RepL] at rv
    subst rv
    exact ⟨v, u, t, rfl, (Out.ret o1 g1 rfl) _ ((((re.mono x1.vx).set r1).set r2).set r3)⟩
  · exact o1.elim⟩
end
/-! ### what is walked -/
def Yl (w : Wd) (J : L2.It) (z : Sit) (ds : List D) : Prop := ∀ z1, Vx z z1 → Good w z1 → (∀ (i : Nat) (d : D), ds[i]? = some d → J.go i z1.H ∧ ∀ x H', J.yld i z1.H x H' → ∃ z2 : Sit, z2.H = H' ∧ z2.S = z1.S ∧ Ex z1 z2 ∧ Good w z2 ∧ Rep w z2 d x) ∧ J.stop ds.length z1.H
def tMI (w : Wd) (E : XK) (f : Env8 → M (List D)) : TI := fun σ H R => ∃ (env : Env8) (z : Sit), z.H = H ∧ Good w z ∧ REnv w z env σ ∧ Out w z (f env z.S) (fun ds z' => ∀ J, Yl w J z' ds → R J z'.H) E
abbrev PMI (X : Cx) (w : Wd) (E : XK) (tg iter : Expr) (f : Env8 → M (List D)) : Prop := PI X tg iter (tMI w E f)
theorem _root_.L2.PI.wk {X : Cx} {tg iter : Expr} {t u : TI} (p : PI X tg iter t) (h : ∀ σ H R, u σ H R → t σ H R) : PI X tg iter u := ⟨fun pins s σ H R I x => p.run pins s σ H R I (h σ H R x)⟩
/-- the items of a list or tuple -/
def dItems (d : D) : M (List D) := match d with
  | .lst ds => M.ret ds
  | .tup ds => M.ret ds
  | .str s => M.ret (s.cps.toList.map fun c => .str ⟨#[c]⟩)
  | _ => M.bad
section
variable {X : Cx} {w : Wd} {E : XK} {e a b c : Expr} {fa fb fc : Env8 → M D} {pos : Pos} {tg : Expr} {z : Sit} {ds : List D} {vs : List V} {p : Addr}
theorem yl_list (r : Rep w z (.lst ds) (.ref p)) : Yl w (Itl w.K p) z ds := fun z1 x g => by
  have r1 := r.mono x
  rw [Rep] at r1
  obtain ⟨a, vs, e, _, h, rl⟩ := r1
  cases e
  have q : SqL w.K z1.H p vs := .inl (.inl h)
  refine ⟨fun i d hd => ?_, vs, q, Nat.le_of_eq rl.length.symm⟩
  obtain ⟨v, h1, h2⟩ := rl.get hd
  exact ⟨⟨vs, v, q, h1⟩, fun y H' hy => ⟨z1, hy.1.symm, rfl, Ex.refl _, g, by have := hy.2 vs q; rw [h1] at this; cases this; exact h2⟩⟩
theorem yl_tup (r : Rep w z (.tup ds) (.ref p)) : Yl w (Itt w.K p) z ds := fun z1 x g => by
  obtain ⟨a, vs, e, q, rl⟩ := asT_at (r.mono x) rfl
  cases e
  refine ⟨fun i d hd => ?_, vs, q, Nat.le_of_eq rl.length.symm⟩
  obtain ⟨v, h1, h2⟩ := rl.get hd
  exact ⟨⟨vs, v, q, h1⟩, fun y H' hy => ⟨z1, hy.1.symm, rfl, Ex.refl _, g, by have := hy.2 vs q; rw [h1] at this; cases this; exact h2⟩⟩
theorem yl_str {s : Str} : Yl w (Its s) z (s.cps.toList.map fun c => .str ⟨#[c]⟩) := fun z1 x g => by
  refine ⟨fun i d hd => ?_, by show s.cps.size ≤ _; simp⟩
  rw [List.getElem?_map] at hd
  cases hc : s.cps.toList[i]? with
  | none => rw [hc] at hd; cases hd
  | some c =>
    rw [hc] at hd
    cases hd
    have hi : i < s.cps.size := by have := (List.getElem?_eq_some_iff.mp hc).1; simpa using this
    refine ⟨hi, fun y H' hy => ⟨z1, hy.1.symm, rfl, Ex.refl _, g, ?_⟩⟩
    obtain ⟨c', h1, h2⟩ := hy.2
    have e : c' = c := by
      have : s.cps.toList[i]? = some c' := by simpa using h1
      rw [hc] at this
      cases this
      rfl
    rw [h2, e]
    exact rep_str
theorem yl_rng {lo : Int} {n : Nat} : Yl w (Itr lo n) z ((List.range n).map fun (i : Nat) => .int (lo + (i : Int))) := fun z1 x g => by
  refine ⟨fun i d hd => ?_, by show n ≤ _; simp⟩
  rw [List.getElem?_map] at hd
  cases hc : (List.range n)[i]? with
  | none => rw [hc] at hd; cases hd
  | some c =>
    rw [hc] at hd
    cases hd
    obtain ⟨hi, e⟩ := List.getElem?_eq_some_iff.mp hc
    simp at hi e
    subst e
    exact ⟨hi, fun y H' hy => ⟨z1, hy.1.symm, rfl, Ex.refl _, g, by rw [hy.2]; exact rep_int⟩⟩
theorem pi_alt {X : Cx} {tg iter : Expr} {t u : TI} (p : PI X tg iter t) (q : PI X tg iter u) : PI X tg iter (fun σ H R => t σ H R ∨ u σ H R) := ⟨fun pins s σ H R I x => by
  rcases x with x | x
  · exact p.run pins s σ H R I x
  · exact q.run pins s σ H R I x⟩
end
/-! ### loops -/
section
variable {X : Cx} {w : Wd} {E : XK} {e a b c : Expr} {fa fb fc : Env8 → M D} {pos : Pos} {tg iter : Expr} {z : Sit} {sts : List Stmt} {s : Env8 → M Fl} {fi : Env8 → M (List D)} {p : Pat}
theorem pms_for (hp : PassesOwn (model X.prog X.w) X.A X.env X.xe) (hc : X.calm = true) (I : PMI X w E tg iter fi) (G : PGM X w tg p) (B : PMSs X w E sts s) (hs : ∀ x, foldedSetIterable iter X.env x = pure x := by intro _; rfl) : PMS X w E (.For tg iter sts [] pos) (sFor fi p s) := (ps_for hp hc I G B hs).wk fun De σ H ⟨env, z, eH, G, re, o⟩ => by
  refine ⟨env, z, eH, G, re, (Out.bnd o).imp fun ds z0 x0 g0 o0 J hJ => ?_⟩
  refine ⟨fun i m σ' H' => ∃ (env : Env8) (z : Sit), z.H = H' ∧ Good w z ∧ REnv w z env σ' ∧ Ex z0 z ∧ i ≤ ds.length ∧ m = ds.length - i ∧ Out w z (loopF p s (ds.drop i) env z.S) (FlP w De) E, ⟨ds.length, env, z0, rfl, g0, re.mono x0.vx, Ex.refl _, Nat.zero_le _, rfl, o0⟩, ?_⟩
  rintro i m σ' H' ⟨env, z, rfl, g, re, x, hi, rfl, o⟩
  obtain ⟨h1, h2⟩ := hJ z x.vx g
  by_cases hlt : i < ds.length
  · obtain ⟨go, yl⟩ := h1 i ds[i] (List.getElem?_eq_getElem hlt)
    rw [List.drop_eq_getElem_cons hlt] at o
    refine .inr ⟨go, fun σ' H' => ∃ (env : Env8) (z : Sit), z.H = H' ∧ Good w z ∧ REnv w z env σ' ∧ Ex z0 z ∧ Out w z (loopF p s (ds.drop (i + 1)) env z.S) (FlP w De) E, fun σ2 H2 ⟨env2, z2, q1, q2, q3, q4, q5⟩ => ⟨ds.length - (i + 1), by omega, env2, z2, q1, q2, q3, q4, hlt, rfl, q5⟩, fun v H2 hy => ?_⟩
    obtain ⟨z2, rfl, eS, x2, g2, r2⟩ := yl v H2 hy
    have o2 := Out.at x2 o
    rw [← eS] at o2
    refine tg_at g2 r2 (re.mono x2.vx) (Out.bnd o2) fun e σ3 re3 q3 _ => ⟨e, z2, rfl, g2, re3, (Out.bnd q3).imp fun r z4 x4 g4 o4 => ?_⟩
    have xx := (x.trans x2).trans x4
    cases r with
    | nx e => exact fun σ5 re5 => ⟨e, z4, rfl, g4, re5, xx, o4⟩
    | ct e => exact fun σ5 re5 => ⟨e, z4, rfl, g4, re5, xx, o4⟩
    | bk e => exact fun σ5 re5 => (show FlP w De (.nx e) z4 from Out.ret (E := E) o4 g4 rfl) σ5 re5
    | rt d => exact (show FlP w De (.rt d) z4 from Out.ret (E := E) o4 g4 rfl)
  · have e : i = ds.length := by omega
    subst e
    rw [List.drop_length] at o
    exact .inl ⟨h2, (show FlP w De (.nx env) z from Out.ret (E := E) o g rfl) σ' re⟩
theorem pms_while {t : Env8 → M Bool} (n : Nat) (hp : PassesOwn (model X.prog X.w) X.A X.env X.xe) (T : PMT X w E c t) (B : PMSs X w E sts s) : PMS X w E (.While c sts [] pos) (loopW t s n) := (ps_while hp T B).wk fun De σ H ⟨env, z, eH, G, re, o⟩ => by
  refine ⟨fun m σ' H' => ∃ (env : Env8) (z : Sit), z.H = H' ∧ Good w z ∧ REnv w z env σ' ∧ Out w z (loopW t s m env z.S) (FlP w De) E, ⟨n, env, z, eH, G, re, o⟩, ?_⟩
  rintro m σ' H' ⟨env, z, rfl, g, re, o⟩
  cases m with
  | zero => exact o.elim
  | succ m =>
    refine ⟨env, z, rfl, g, re, (Out.bnd o).imp fun b z1 x1 g1 o1 => ?_⟩
    cases b with
    | false => exact iteF ((show FlP w De (.nx env) z1 from Out.ret (E := E) o1 g1 rfl) σ' (re.mono x1.vx))
    | true =>
      refine iteT ⟨fun σ' H' => ∃ (env : Env8) (z : Sit), z.H = H' ∧ Good w z ∧ REnv w z env σ' ∧ Out w z (loopW t s m env z.S) (FlP w De) E, fun σ2 H2 q => ⟨m, Nat.lt_succ_self _, q⟩, env, z1, rfl, g1, re.mono x1.vx, (Out.bnd (show Out w z1 (((s env).bnd _) z1.S) (FlP w De) E from o1)).imp fun r z4 x4 g4 o4 => ?_⟩
      cases r with
      | nx e => exact fun σ5 re5 => ⟨e, z4, rfl, g4, re5, o4⟩
      | ct e => exact fun σ5 re5 => ⟨e, z4, rfl, g4, re5, o4⟩
      | bk e => exact fun σ5 re5 => (show FlP w De (.nx e) z4 from Out.ret (E := E) o4 g4 rfl) σ5 re5
      | rt d => exact (show FlP w De (.rt d) z4 from Out.ret (E := E) o4 g4 rfl)
/-! walked things -/
theorem pmi_seq (hK : X.K = w.K) (A : PM X w E iter fa) : PMI X w E tg iter (f1 dItems fa) := by
  have h1 := pi_list (tg := tg) A
  have h2 := pi_tup (tg := tg) A
  rw [hK] at h1 h2
  refine (pi_alt (pi_alt h1 h2) (pi_str (tg := tg) A)).wk fun σ H R ⟨env, z, eH, G, re, o⟩ => ?_
  have o1 := Out.bnd o
  have key : ∀ d S, fa env z.S = .ok d S → (∃ ds, d = .lst ds) ∨ (∃ ds, d = .tup ds) ∨ (∃ s, d = .str s) := fun d S h => by
    unfold f1 M.bnd at o
    rw [h] at o
    cases d with
    | lst ds => exact .inl ⟨ds, rfl⟩
    | tup ds => exact .inr (.inl ⟨ds, rfl⟩)
    | str s => exact .inr (.inr ⟨s, rfl⟩)
    | _ => exact o.elim
  cases h : fa env z.S with
  | bad => unfold f1 M.bnd at o; rw [h] at o; exact o.elim
  | er c fs S =>
    rw [h] at o1
    exact .inl (.inl ⟨env, z, eH, G, re, by rw [h]; exact o1⟩)
  | ok d S =>
    rw [h] at o1
    rcases key d S h with ⟨ds, rfl⟩ | ⟨ds, rfl⟩ | ⟨s, rfl⟩
    · refine .inl (.inl ⟨env, z, eH, G, re, ?_⟩)
      rw [h]
      refine fun z1 e1 x1 g1 v rv => ?_
      have o2 := Out.ret (show Out w z1 (M.ret ds z1.S) _ E from o1 z1 e1 x1 g1) g1 rfl
      have rv' := rv
      rw [Rep] at rv'
      obtain ⟨p, vs, rfl, _, hp, _⟩ := rv'
      exact ⟨p, rfl, ⟨vs, .inl (.inl hp)⟩, o2 _ (yl_list rv)⟩
    · refine .inl (.inr ⟨env, z, eH, G, re, ?_⟩)
      rw [h]
      refine fun z1 e1 x1 g1 v rv => ?_
      have o2 := Out.ret (show Out w z1 (M.ret ds z1.S) _ E from o1 z1 e1 x1 g1) g1 rfl
      obtain ⟨p, vs, rfl, hp, _⟩ := asT_at rv rfl
      exact ⟨p, rfl, ⟨vs, hp⟩, o2 _ (yl_tup rv)⟩
    · refine .inr ⟨env, z, eH, G, re, ?_⟩
      rw [h]
      refine fun z1 e1 x1 g1 v rv => ?_
      have o2 := Out.ret (show Out w z1 (M.ret (s.cps.toList.map fun c => D.str ⟨#[c]⟩) z1.S) _ E from o1 z1 e1 x1 g1) g1 rfl
      rw [Rep] at rv
      exact ⟨s, rv, o2 _ yl_str⟩
/-- range(n), range(a, b) -/
def dRange1 : List D → M (List D)
  | [.int n] => if -(2 ^ 62) ≤ n ∧ n < 2 ^ 62 then M.ret ((List.range n.toNat).map fun (i : Nat) => .int (0 + (i : Int))) else M.bad
  | _ => M.bad
def dRange2 : List D → M (List D)
  | [.int a, .int b] => if -(2 ^ 62) ≤ a ∧ a < 2 ^ 62 ∧ -(2 ^ 62) ≤ b ∧ b < 2 ^ 62 then M.ret ((List.range (b - a).toNat).map fun (i : Nat) => .int (a + (i : Int))) else M.bad
  | _ => M.bad
variable {fs : Env8 → M (List D)}
theorem pmi_range1 {q : Pos} (hg : Gl X "range") (hm : X.mg "range" = none) (A : PMA X w E [a] fs) (hs : starEach [a] X.env = [(false, eval a X.env)] := by rfl) : PMI X w E tg (.Call (.Name "range" q) [a] [] pos) (f1 dRange1 fs) := (pi_range1 hg hm A hs).wk fun σ H R ⟨env, z, eH, G, re, o⟩ => ⟨env, z, eH, G, re, (Out.bnd o).imp fun ds z1 x1 g1 o1 vs rv => by
  unfold dRange1 at o1
  split at o1
  · split at o1
    · rename_i h
      have := RepL.ints (ns := [_]) rv
      subst this
      exact ⟨_, rfl, h.1, h.2, (Out.ret o1 g1 rfl) _ yl_rng⟩
    · exact o1.elim
  · exact o1.elim⟩
theorem pmi_range2 {q : Pos} (hg : Gl X "range") (hm : X.mg "range" = none) (A : PMA X w E [a, b] fs) (hs : starEach [a, b] X.env = [(false, eval a X.env), (false, eval b X.env)] := by rfl) (hs2 : starEach [b] X.env = [(false, eval b X.env)] := by rfl) : PMI X w E tg (.Call (.Name "range" q) [a, b] [] pos) (f1 dRange2 fs) := (pi_range2 hg hm A hs hs2).wk fun σ H R ⟨env, z, eH, G, re, o⟩ => ⟨env, z, eH, G, re, (Out.bnd o).imp fun ds z1 x1 g1 o1 vs rv => by
  unfold dRange2 at o1
  split at o1
  · split at o1
    · rename_i h
      have := RepL.ints (ns := [_, _]) rv
      subst this
      exact ⟨_, _, rfl, h, (Out.ret o1 g1 rfl) _ yl_rng⟩
    · exact o1.elim
  · exact o1.elim⟩
end
end Ol

namespace Ol
open PySem PySem.Spec PyProof.Rows L2
/-! ### comprehensions -/
section
variable {w : Wd} {z : Sit} {p : Addr}
/-- a new list that is not seen -/
def Sit.hide (z : Sit) (p : Addr) (H : Hp) : Sit := ⟨z.mu, z.S, H, p :: z.hd⟩
theorem Vx.hide {H' : Hp} (hp : z.H p = none) (s : Same z.H H') : Vx z (z.hide p H') := ⟨fun _ _ h => h, fun b o n h _ => ⟨s b o h, fun l => by
  rcases l with l | l
  · exact n (.inl l)
  · rcases List.mem_cons.mp l with e | l
    · rw [e, hp] at h; cases h
    · exact n (.inr l)⟩⟩
theorem Good.hide {H' : Hp} (g : Good w z) (hp : z.H p = none) (s : Same z.H H') (hn : H' p ≠ none) (ht : ∀ ps, H' p ≠ some (.tbl ps)) : Good w (z.hide p H') := by
  refine ⟨g.len, g.nd, fun i a o h1 h2 => (g.at_ i a o h1 h2).mono (Vx.hide hp s) (same_eq s (g.there a (List.mem_of_getElem? h1))), fun a h => same_ne s (g.there a h), fun a h => ?_, fun a h q => ?_, g.tab.ext s, fun a ps h => ?nt⟩
  case nt =>
    have old : (a ∈ z.mu ∨ a ∈ z.hd) → H' a ≠ some (.tbl ps) := fun h => by
      rw [show H' a = z.H a from same_eq s (h.elim (g.there a) (g.hid a))]
      exact g.nt a ps h
    rcases h with h | h
    · exact old (.inl h)
    · rcases List.mem_cons.mp h with e | h
      · rw [e]; exact ht ps
      · exact old (.inr h)
  · rcases List.mem_cons.mp h with e | h
    · rw [e]; exact hn
    · exact same_ne s (g.hid a h)
  · rcases List.mem_cons.mp q with e | q
    · rw [e] at h; exact g.there p h hp
    · exact g.dis a h q
/-- what is not seen is written -/
theorem Vx.hid {o : HO} (h : p ∈ z.hd) : Vx z (z.on (upd z.H p o)) := ⟨fun _ _ h => h, fun b u n hb _ => ⟨by
  show upd z.H p o b = some u
  rw [upd_ne (fun e : b = p => n (.inr (by rw [e]; exact h)))]
  exact hb, n⟩⟩
theorem Good.hidw {o u : HO} (g : Good w z) (h : p ∈ z.hd) (hu : z.H p = some u) (pu : plainO u) (po : ∀ ps, o ≠ .tbl ps := by intro _ e; cases e) : Good w (z.on (upd z.H p o)) := by
  refine ⟨g.len, g.nd, fun i a q h1 h2 => (g.at_ i a q h1 h2).mono (Vx.hid h) ?_, fun a h => upd_some (g.there a h), fun a h => upd_some (g.hid a h), g.dis, tabs_upd g.tab hu pu, fun a ps h => ?nt⟩
  case nt =>
    show upd z.H p o a ≠ some (.tbl ps)
    by_cases e : a = p
    · rw [e, upd_same]; exact fun e => po ps (Option.some.inj e)
    · rw [upd_ne e]; exact g.nt a ps h
  show upd z.H p o a = z.H a
  rw [upd_ne (fun e : a = p => g.dis a (List.mem_of_getElem? h1) (by rw [e]; exact h))]
/-- seen again -/
theorem Vx.seen {hd : List Addr} (h : ∀ a ∈ hd, a ∈ z.hd) : Vx z ⟨z.mu, z.S, z.H, hd⟩ := ⟨fun _ _ h => h, fun b o n hb _ => ⟨hb, fun l => by
  rcases l with l | l
  · exact n (.inl l)
  · exact n (.inr (h b l))⟩⟩
theorem Good.seen {hd : List Addr} (g : Good w z) (h : ∀ a ∈ hd, a ∈ z.hd) : Good w ⟨z.mu, z.S, z.H, hd⟩ :=
  ⟨g.len, g.nd, fun i a q h1 h2 => (g.at_ i a q h1 h2).mono (Vx.seen h) rfl, g.there, fun a q => g.hid a (h a q), fun a q r => g.dis a q (h a r), g.tab, fun a ps q => g.nt a ps (q.imp id (h a))⟩
end
def wipe8 (env : Env8) : List Nat → Env8
  | [] => env
  | v :: vs => (wipe8 env vs).set v none
theorem wipe8_len (env : Env8) : ∀ vs : List Nat, (wipe8 env vs).length = env.length
  | [] => rfl
  | v :: vs => by unfold wipe8; rw [List.length_set, wipe8_len env vs]
theorem REnv.wipe {w : Wd} {z : Sit} {env : Env8} {σ : L2.St} (h : REnv w z env σ) : ∀ vs : List Nat, REnv w z (wipe8 env vs) (L2.wipe σ vs)
  | [] => h
  | v :: vs => by
    have ih := h.wipe vs
    unfold wipe8 L2.wipe
    refine ⟨by simp [ih.1], fun j d hj => ?_⟩
    by_cases q : v = j
    · subst q
      have hl := (List.getElem?_eq_some_iff.mp hj).1
      rw [List.length_set] at hl
      rw [List.getElem?_set_self hl] at hj
      cases hj
    · rw [List.getElem?_set_ne q] at hj
      rw [List.getElem?_set_ne q]
      exact ih.2 j d hj
/-- within a comprehension nothing is raised -/
def noEr {α : Type} (m : M α) : M α := fun S => match m S with
  | .ok a S' => .ok a S'
  | _ => .bad
def loopC (p : Pat) (t : Env8 → M Bool) (fe : Env8 → M D) (env : Env8) : List D → M (List D)
  | [] => M.ret []
  | d :: ds => (bindM p d env).bnd fun e => (t e).bnd fun b => if b = true then (fe e).bnd fun y => (loopC p t fe env ds).bnd fun ys => M.ret (y :: ys) else loopC p t fe env ds
def fLc (fi : Env8 → M (List D)) (p : Pat) (t : Env8 → M Bool) (fe : Env8 → M D) : Env8 → M D := fun env => (fi env).bnd fun ds => if ds.length ≤ big then (noEr (loopC p t fe (wipe8 env p.slots) ds)).bnd fun ys => M.ret (.lst ys) else M.bad
abbrev E0 : XK := fun _ _ _ => False
def fYes : Env8 → M Bool := fun _ => M.ret true
abbrev PMTs (X : Cx) (w : Wd) (E : XK) (es : List Expr) (f : Env8 → M Bool) : Prop := PTs X es (tMB w E f)
theorem pmts_nil {X : Cx} {w : Wd} {E : XK} : PMTs X w E [] fYes := ⟨fun pins s σ H Q I ⟨env, z, eH, G, re, o⟩ => pts_nil.run pins s σ H Q I (by subst eH; exact Out.ret o G rfl)⟩
theorem pmts_one {X : Cx} {w : Wd} {E : XK} {c : Expr} {f : Env8 → M Bool} (h : PMT X w E c f) : PMTs X w E [c] f := pts_one h
theorem Out.ofNoEr {α : Type} {w : Wd} {z : Sit} {m : M α} {P : α → Sit → Prop} {E E' : XK} {S : Store} (h : Out w z (noEr m S) P E) : Out w z (m S) P E' := by
  unfold noEr at h
  cases e : m S with
  | ok a S1 => rw [e] at h; exact h
  | er c fs S1 => rw [e] at h; exact h.elim
  | bad => rw [e] at h; exact h
theorem bnd_ok {α β : Type} {m : M α} {k : α → M β} {S S' : Store} {b : β} (h : (m.bnd k) S = .ok b S') : ∃ a S1, m S = .ok a S1 ∧ k a S1 = .ok b S' := by
  unfold M.bnd at h
  cases e : m S with
  | ok a S1 => rw [e] at h; exact ⟨a, S1, rfl, h⟩
  | er c fs S1 => rw [e] at h; cases h
  | bad => rw [e] at h; cases h
theorem lc_at {w : Wd} {J : L2.It} {ds : List D} {p : Pat} {t : Env8 → M Bool} {fe : Env8 → M D} {env : Env8} {σ : L2.St} {z0 : Sit} {Q : VK} {ys : List D} {S' : Store} (hs : ds.length ≤ big) (hJ : Yl w J z0 ds) (g0 : Good w z0) (re : REnv w z0 env σ)
    (o : loopC p t fe (wipe8 env p.slots) ds z0.S = .ok ys S') (fin : ∀ zf : Sit, zf.S = S' → Ex z0 zf → Good w zf → ∀ v, Rep w zf (.lst ys) v → Q v zf.H) (A : Addr) (hA : z0.H A = none) :
    ∃ W : Nat → Nat → Hp → Prop, (∃ m, W 0 m (upd z0.H A (.lst []))) ∧ ∀ i m H, W i m H →
      (J.stop i H ∧ Q (.ref A) H) ∨ (J.go i H ∧ ∃ Nx : Hp → Prop, (∀ H', Nx H' → ∃ m', m' < m ∧ W (i + 1) m' H') ∧ ∀ x H', J.yld i H x H' → tgP w.K p x (L2.wipe σ p.slots) H' fun σ2 H2 => L2.wipe σ2 p.slots = L2.wipe σ p.slots ∧ tMB w E0 t σ2 H2 fun b H3 =>
        if b = true then tM w E0 fe σ2 H3 fun y H4 => ∃ acc, H4 A = some (.lst acc) ∧ acc.length < sizeLine ∧ Nx (upd H4 A (.lst (acc ++ [y]))) else Nx H3) := by
  have s0 := Same.new (o := .lst []) hA
  have nA : A ∉ z0.hd := fun q => g0.hid A q hA
  -- what holds ahead of a turn
  let St8 := fun (i : Nat) (H : Hp) => ∃ (z : Sit) (accD rest : List D) (accV : List V), z.H = H ∧ z.hd = A :: z0.hd ∧ Good w z ∧ Vx z0 z ∧ (∀ b o, ¬ z0.own b → z0.H b = some o → (∀ ps, o ≠ .tbl ps) → z.H b = some o ∧ ¬ z.own b) ∧ ¬ z.own A ∧
    z.H A = some (.lst accV) ∧ RepL w z accD accV ∧ accD.length ≤ i ∧ loopC p t fe (wipe8 env p.slots) (ds.drop i) z.S = .ok rest S' ∧ ys = accD ++ rest
  refine ⟨fun i m H => m = ds.length - i ∧ i ≤ ds.length ∧ St8 i H, ⟨ds.length, rfl, Nat.zero_le _, z0.hide A (upd z0.H A (.lst [])), [], ys, [], rfl, rfl, g0.hide hA s0 (by rw [upd_same]; simp) (fun ps => by rw [upd_same]; simp), Vx.hide hA s0, fun b o n h _ => ⟨s0 b o h, n⟩, fun q => g0.there A q.mem hA, upd_same, RepL.nil, Nat.le_refl _, o, rfl⟩, ?_⟩
  rintro i m H ⟨rfl, hi, z, accD, rest, accV, rfl, ehd, g, vx, kp, no, hzA, ra, la, lo, ey⟩
  have mA : A ∈ z.hd := by rw [ehd]; exact List.mem_cons_self
  obtain ⟨h1, h2⟩ := hJ z vx g
  by_cases hlt : i < ds.length
  · obtain ⟨go, yl⟩ := h1 i ds[i] (List.getElem?_eq_getElem hlt)
    rw [List.drop_eq_getElem_cons hlt] at lo
    refine .inr ⟨go, St8 (i + 1), fun H' q => ⟨ds.length - (i + 1), by omega, rfl, hlt, q⟩, fun v H2 hy => ?_⟩
    obtain ⟨z2, rfl, eS, x2, g2, r2⟩ := yl v H2 hy
    rw [← eS] at lo
    obtain ⟨e1, S1, q1, lo⟩ := bnd_ok lo
    have q1' : bindP z2.S p ds[i] (wipe8 env p.slots) = some e1 ∧ z2.S = S1 := by
      unfold bindM at q1
      split at q1
      · rename_i e he
        cases q1
        exact ⟨he, rfl⟩
      · cases q1
    obtain ⟨hb, rfl⟩ := q1'
    obtain ⟨b, S1, q2, lo⟩ := bnd_ok lo
    have vx2 := vx.trans x2.vx
    refine bindP_at g2 (is := p.slots) r2 ((re.mono vx2).wipe _) hb (fun _ hm => hm) fun σ2 re2 off => ⟨?_, e1, z2, rfl, g2, re2, ?_⟩
    · have := off.wipe (vs := p.slots) fun _ hm => hm
      rw [this]
      apply List.ext_getElem?
      intro j
      by_cases hj : j ∈ p.slots
      · have ee : ∀ s : L2.St, j < s.length → (L2.wipe s p.slots)[j]? = some none := fun s hs => by
          cases q : (L2.wipe s p.slots)[j]? with
          | none => have := List.getElem?_eq_none_iff.mp q; rw [wipe_length] at this; omega
          | some x =>
            cases x with
            | none => rfl
            | some v => exact absurd hj (wipe_some q).2
        by_cases hl : j < σ.length
        · rw [ee _ hl, ee _ (by rw [wipe_length]; exact hl)]
        · rw [List.getElem?_eq_none (by rw [wipe_length, wipe_length]; omega), List.getElem?_eq_none (by rw [wipe_length]; omega)]
      · rw [wipe_out hj]
    · rw [q2]
      refine fun z3 e3 x3 g3 => ?_
      subst e3
      have e23 := x2.trans x3
      have kp3 : ∀ b o, ¬ z0.own b → z0.H b = some o → (∀ ps, o ≠ .tbl ps) → z3.H b = some o ∧ ¬ z3.own b := fun b o n h tt => let ⟨u1, u2⟩ := kp b o n h tt; e23.keep b o u2 u1 tt
      obtain ⟨hA3, no3⟩ := e23.keep A _ no hzA (fun _ e => by cases e)
      have vx3 := vx2.trans x3.vx
      cases b with
      | false => exact iteF ⟨z3, accD, rest, accV, rfl, by rw [e23.hd, ehd], g3, vx3, kp3, no3, hA3, ra.mono e23.vx, by omega, lo, ey⟩
      | true =>
        obtain ⟨y, S4, q4, lo⟩ := bnd_ok (show ((fe e1).bnd fun y => (loopC p t fe (wipe8 env p.slots) (ds.drop (i + 1))).bnd fun ys => M.ret (y :: ys)) z3.S = .ok rest S' from lo)
        obtain ⟨rest', S5, q5, lo⟩ := bnd_ok lo
        cases lo
        refine iteT ⟨e1, z3, rfl, g3, re2.mono x3.vx, ?_⟩
        rw [q4]
        refine fun z4 e4 x4 g4 v4 r4 => ?_
        subst e4
        have e24 := e23.trans x4
        obtain ⟨hA4, no4⟩ := e24.keep A _ no hzA (fun _ e => by cases e)
        have m4 : A ∈ z4.hd := by rw [e24.hd, ehd]; exact List.mem_cons_self
        have V4 : Vx z4 (z4.on (upd z4.H A (.lst (accV ++ [v4])))) := Vx.hid m4
        refine ⟨accV, hA4, Nat.lt_of_le_of_lt (by rw [← ra.length]; exact Nat.le_trans la (Nat.le_trans (Nat.le_of_lt hlt) hs)) (by decide), z4.on (upd z4.H A (.lst (accV ++ [v4]))), accD ++ [y], rest', accV ++ [v4], rfl, by show z4.hd = _; rw [e24.hd, ehd], g4.hidw m4 hA4 trivial, (vx3.trans x4.vx).trans V4, fun b o n h tt => ?_, no4, upd_same, ((ra.mono e24.vx).append (RepL.cons r4 RepL.nil)).mono V4, by simp; exact la, q5, by rw [ey]; simp⟩
        obtain ⟨u1, u2⟩ := kp b o n h tt
        obtain ⟨u3, u4⟩ := e24.keep b o u2 u1 tt
        refine ⟨?_, u4⟩
        show upd z4.H A _ b = some o
        rw [upd_ne (ne_of_none h hA)]
        exact u3
  · have e : i = ds.length := by omega
    subst e
    rw [List.drop_length] at lo
    cases lo
    refine .inl ⟨h2, ?_⟩
    have sub : ∀ a ∈ z0.hd, a ∈ z.hd := fun a ha => by rw [ehd]; exact List.mem_cons_of_mem _ ha
    refine fin ⟨z.mu, z.S, z.H, z0.hd⟩ rfl ⟨vx.pre, rfl, kp⟩ (g.seen sub) (.ref A) ?_
    rw [Rep]
    refine ⟨A, accV, rfl, fun l => ?_, hzA, ?_⟩
    · rcases l with l | l
      · exact no l
      · exact nA l
    · rw [ey, List.append_nil]
      exact ra.mono (Vx.seen sub)
section
variable {X : Cx} {w : Wd} {E : XK} {elt tg iter : Expr} {ifs : List Expr} {scope : Scope} {own : List (Str × Nat)} {pos : Pos} {p : Pat} {fi : Env8 → M (List D)} {t : Env8 → M Bool} {fe : Env8 → M D}
theorem lc_wk {σ : L2.St} {H : Hp} {Q : VK} (h : tM w E (fLc fi p t fe) σ H Q) : tLc (tMI w E fi) (tgP w.K p) (tMB w E0 t) (tM w E0 fe) p.slots σ H Q := by
  obtain ⟨env, z, eH, G, re, o⟩ := h
  refine ⟨env, z, eH, G, re, (Out.bnd o).imp fun ds z0 x0 g0 o0 J hJ A hA => ?_⟩
  split at o0
  · rename_i hs
    have o1 := Out.bnd o0
    unfold noEr at o1
    cases e : loopC p t fe (wipe8 env p.slots) ds z0.S with
    | ok ys S' =>
      rw [e] at o1
      exact lc_at (Q := Q) hs hJ g0 (re.mono x0.vx) e (fun zf e1 x1 g1 => Out.ret (o1 zf e1 x1 g1) g1 rfl) A hA
    | er c fs S1 => rw [e] at o1; exact o1.elim
    | bad => rw [e] at o1; exact o1.elim
  · exact o0.elim
theorem pm_lc (hc : X.calm = true) (hN : X.N.Nodup) (I : PMI X w E tg iter fi) (ok : BlkOk X.N X.env.scope scope own) (ho : own.map (·.2) = p.slots)
    (G : ∀ (s : Shared) (H : Hp) (C : Addr) (cl : List (Str × Addr)) (fp : List Addr), PGM (X.blk s H scope (compEnvC scope cl C X.env) fp) w tg p) (T : ∀ (s : Shared) (H : Hp) (C : Addr) (cl : List (Str × Addr)) (fp : List Addr), PMTs (X.blk s H scope (compEnvC scope cl C X.env) fp) w E0 ifs t)
    (A : ∀ (s : Shared) (H : Hp) (C : Addr) (cl : List (Str × Addr)) (fp : List Addr), PM (X.blk s H scope (compEnvC scope cl C X.env) fp) w E0 elt fe) (hs : ∀ x, foldedSetIterable iter X.env x = pure x := by intro _; rfl) :
    PM X w E (.ListComp elt [⟨tg, iter, ifs, 0⟩] scope pos) (fLc fi p t fe) := (pe_lc hc hN I ok G T A hs).wk fun σ H Q h => by rw [ho]; exact lc_wk h
theorem pms_setLc {i : Nat} {y : Str} {py spos : Pos} (hc : X.calm = true) (hN : X.N.Nodup) (hy : X.N[i]? = some y) (hyl : X.env.scope.names.lookup y = some .local) (hsw : swapsWith (.ListComp elt [⟨tg, iter, ifs, 0⟩] scope pos) (some (.Name y py)) spos.line X.env = pure true)
    (I : PMI X w E tg iter fi) (ok : BlkOk X.N X.env.scope scope own) (ho : own.map (·.2) = p.slots)
    (G : ∀ (s : Shared) (H : Hp) (C : Addr) (cl : List (Str × Addr)) (fp : List Addr), PGM (X.blk s H scope (compEnvC scope cl C X.env) fp) w tg p) (T : ∀ (s : Shared) (H : Hp) (C : Addr) (cl : List (Str × Addr)) (fp : List Addr), PMTs (X.blk s H scope (compEnvC scope cl C X.env) fp) w E0 ifs t)
    (A : ∀ (s : Shared) (H : Hp) (C : Addr) (cl : List (Str × Addr)) (fp : List Addr), PM (X.blk s H scope (compEnvC scope cl C X.env) fp) w E0 elt fe) (hs : ∀ x, foldedSetIterable iter X.env x = pure x := by intro _; rfl) :
    PMS X w E (.Assign [.Name y py] (.ListComp elt [⟨tg, iter, ifs, 0⟩] scope pos) spos) (sAsg (.nm i) (fLc fi p t fe)) := (ps_setLc hc hN hy hyl hsw I ok G T A hs).wk fun De σ H ⟨env, z, eH, G, re, o⟩ => by
  rw [ho]
  refine lc_wk ⟨env, z, eH, G, re, (Out.bnd o).imp fun d z1 x1 g1 o1 v rv => ?_⟩
  have := tg_at (R := De.nx) g1 rv (re.mono x1.vx) (Out.bnd o1) fun e σ' re' q _ => (Out.ret q g1 rfl) σ' re'
  rw [tgP] at this
  exact this
end
end Ol

namespace Ol
open PySem PySem.Spec PyProof.Rows L2
/-! ### what was made in a call goes with it -/
mutual
def D.lim (k : Nat) : D → Bool
  | .lst xs => D.limL k xs
  | .tup xs => D.limL k xs
  | .dct kvs => D.limK k kvs
  | .ins _ fs => D.limF k fs
  | .err _ fs => D.limF k fs
  | .loc i => decide (i < k)
  | _ => true
def D.limL (k : Nat) : List D → Bool
  | [] => true
  | d :: ds => d.lim k && D.limL k ds
def D.limF (k : Nat) : List (Str × D) → Bool
  | [] => true
  | (_, d) :: ds => d.lim k && D.limF k ds
def D.limK (k : Nat) : List (Key × D) → Bool
  | [] => true
  | (_, d) :: ds => d.lim k && D.limK k ds
end
def O.lim (k : Nat) : O → Bool
  | .off => true
  | .lst xs => D.limL k xs
  | .dct kvs => D.limK k kvs
  | .ins _ fs => D.limF k fs
def Sit.cut (z : Sit) (k : Nat) : Sit := ⟨z.mu.take k, z.S.take k, z.H, z.hd⟩
section
variable {w : Wd} {z : Sit} {k : Nat}
theorem take_some {α : Type} {l : List α} {i : Nat} {a : α} (h : (l.take k)[i]? = some a) : l[i]? = some a ∧ i < k := by
  have hi := (List.getElem?_eq_some_iff.mp h).1
  rw [List.length_take] at hi
  rw [List.getElem?_take_of_lt (by omega)] at h
  exact ⟨h, by omega⟩
theorem Sit.cut_own {a : Addr} (h : (z.cut k).own a) : z.own a := by
  obtain ⟨i, o, h1, h2, h3⟩ := h
  exact ⟨i, o, (take_some h1).1, (take_some h2).1, h3⟩
theorem Sit.cut_live {a : Addr} (h : ¬ z.live a) : ¬ (z.cut k).live a := fun q => by
  rcases q with q | q
  · exact h (.inl (Sit.cut_own q))
  · exact h (.inr q)
mutual
theorem Rep.cut : ∀ {d : D} {v : V}, Rep w z d v → d.lim k = true → Rep w (z.cut k) d v
  | .non, _, h, _ => by simpa [Rep] using h
  | .bl _, _, h, _ => by simpa [Rep] using h
  | .int _, _, h, _ => by simpa [Rep] using h
  | .str _, _, h, _ => by simpa [Rep] using h
  | .lst ds, v, h, l => by
    rw [Rep] at h ⊢
    rw [D.lim] at l
    obtain ⟨a, vs, e, n, h, r⟩ := h
    exact ⟨a, vs, e, Sit.cut_live n, h, RepL.cut r l⟩
  | .tup ds, v, h, l => by
    rw [Rep] at h ⊢
    rw [D.lim] at l
    obtain ⟨a, vs, e, h, r⟩ := h
    refine ⟨a, vs, e, ?_, RepL.cut r l⟩
    rcases h with ⟨n, h⟩ | h
    · exact .inl ⟨Sit.cut_live n, h⟩
    · exact .inr h
  | .dct kvs, v, h, l => by
    rw [Rep] at h ⊢
    rw [D.lim] at l
    obtain ⟨a, us, e, n, h, r⟩ := h
    exact ⟨a, us, e, Sit.cut_live n, h, RepK.cut r l⟩
  | .ins c fs, v, h, l => by
    rw [Rep] at h ⊢
    rw [D.lim] at l
    obtain ⟨a, dx, us, e, n, h, r⟩ := h
    exact ⟨a, dx, us, e, Sit.cut_live n, h, RepF.cut r l⟩
  | .err c fs, v, h, l => by
    rw [Rep] at h ⊢
    rw [D.lim] at l
    obtain ⟨a, dx, us, e, n, h, nd, hd, r⟩ := h
    exact ⟨a, dx, us, e, Sit.cut_live n, h, Sit.cut_live nd, hd, RepF.cut r l⟩
  | .cls _, _, h, _ => by simpa [Rep] using h
  | .ty _, _, h, _ => by simpa [Rep] using h
  | .loc i, v, h, l => by
    rw [Rep] at h ⊢
    rw [D.lim, decide_eq_true_eq] at l
    obtain ⟨a, e, h⟩ := h
    exact ⟨a, e, by show (z.mu.take k)[i]? = some a; rw [List.getElem?_take_of_lt l]; exact h⟩
  | .scr ns, v, h, _ => by
    rw [Rep] at h ⊢
    obtain ⟨a, e, h⟩ := h
    refine ⟨a, e, ?_⟩
    rcases h with ⟨n, h⟩ | h
    · exact .inl ⟨Sit.cut_live n, h⟩
    · exact .inr h
theorem RepL.cut : ∀ {ds : List D} {vs : List V}, RepL w z ds vs → D.limL k ds = true → RepL w (z.cut k) ds vs
  | [], _, h, _ => by simpa [RepL] using h
  | d :: ds, vs, h, l => by
    rw [RepL] at h ⊢
    rw [D.limL, Bool.and_eq_true] at l
    obtain ⟨v, r, e, h1, h2⟩ := h
    exact ⟨v, r, e, Rep.cut h1 l.1, RepL.cut h2 l.2⟩
theorem RepF.cut : ∀ {ds : List (Str × D)} {vs : List (Str × V)}, RepF w z ds vs → D.limF k ds = true → RepF w (z.cut k) ds vs
  | [], _, h, _ => by simpa [RepF] using h
  | (f, d) :: ds, vs, h, l => by
    rw [RepF] at h ⊢
    rw [D.limF, Bool.and_eq_true] at l
    obtain ⟨v, r, e, h1, h2⟩ := h
    exact ⟨v, r, e, Rep.cut h1 l.1, RepF.cut h2 l.2⟩
theorem RepK.cut : ∀ {ds : List (Key × D)} {vs : List (Key × V)}, RepK w z ds vs → D.limK k ds = true → RepK w (z.cut k) ds vs
  | [], _, h, _ => by simpa [RepK] using h
  | (f, d) :: ds, vs, h, l => by
    rw [RepK] at h ⊢
    rw [D.limK, Bool.and_eq_true] at l
    obtain ⟨v, r, e, h1, h2⟩ := h
    exact ⟨v, r, e, Rep.cut h1 l.1, RepK.cut h2 l.2⟩
end
theorem Good.cut (g : Good w z) (h : (z.S.take k).all (O.lim k) = true) : Good w (z.cut k) := by
  refine ⟨by show (z.mu.take k).length = (z.S.take k).length; simp [g.len], g.nd.sublist (List.take_sublist _ _), fun i a o h1 h2 => ?_, fun a h => g.there a (List.mem_of_mem_take h), g.hid, fun a h => g.dis a (List.mem_of_mem_take h), g.tab, fun a ps q => g.nt a ps (q.imp List.mem_of_mem_take id)⟩
  have l := List.all_eq_true.mp h o (List.mem_of_getElem? h2)
  have q := g.at_ i a o (take_some h1).1 (take_some h2).1
  cases o with
  | off => trivial
  | lst ds => obtain ⟨vs, h1, h2⟩ := q; exact ⟨vs, h1, h2.cut l⟩
  | dct kvs => obtain ⟨vs, h1, h2⟩ := q; exact ⟨vs, h1, h2.cut l⟩
  | ins c fs => obtain ⟨dx, vs, h1, h2⟩ := q; exact ⟨dx, vs, h1, h2.cut l⟩
theorem Ex.cut {z0 : Sit} (x : Ex z0 z) (hl : z0.mu.length ≤ k) : Ex z0 (z.cut k) := ⟨fun i a h => by
  show (z.mu.take k)[i]? = some a
  rw [List.getElem?_take_of_lt (Nat.lt_of_lt_of_le (List.getElem?_eq_some_iff.mp h).1 hl)]
  exact x.pre i a h, x.hd, fun b o n h t => let ⟨h1, h2⟩ := x.keep b o n h t; ⟨h1, fun q => h2 (Sit.cut_own q)⟩⟩
end
def gc (m : M D) : M D := fun S => match m S with
  | .ok d S' => if d.lim S.length = true ∧ (S'.take S.length).all (O.lim S.length) = true then .ok d (S'.take S.length) else .bad
  | .er c fs S' => if D.limF S.length fs = true ∧ (S'.take S.length).all (O.lim S.length) = true then .er c fs (S'.take S.length) else .bad
  | .bad => .bad
theorem Out.gc {w : Wd} {z : Sit} {m : M D} {Q : VK} {E : XK} (g : Good w z) (h : Out w z (Ol.gc m z.S) (PQ w Q) E) : Out w z (m z.S) (PQ w Q) E := by
  unfold Ol.gc at h
  cases e : m z.S with
  | bad => rw [e] at h; exact h
  | ok d S' =>
    rw [e] at h
    dsimp only at h
    split at h
    · rename_i l
      intro z' eS x g' v r
      subst eS
      exact h (z'.cut z.S.length) rfl (x.cut (Nat.le_of_eq g.len)) (g'.cut l.2) v (r.cut l.1)
    · exact h.elim
  | er c fs S' =>
    rw [e] at h
    dsimp only at h
    split at h
    · rename_i l
      intro z' dx us eS x g' r hd nd
      subst eS
      exact h (z'.cut z.S.length) dx us rfl (x.cut (Nat.le_of_eq g.len)) (g'.cut l.2) (r.cut l.1) hd (Sit.cut_live nd)
    · exact h.elim
theorem pm_gc {X : Cx} {w : Wd} {E : XK} {e : Expr} {f : Env8 → M D} (p : PM X w E e f) : PM X w E e (fun env => gc (f env)) := p.wk fun σ H Q ⟨env, z, eH, G, re, o⟩ => ⟨env, z, eH, G, re, Out.gc G o⟩
/-! ### defs -/
def runF (n m : Nat) (body : Env8 → M Fl) : List D → M D := fun ds => if ds.length = n then (body (ds.map some ++ List.replicate (m - n) none)).bnd fun r => match r with
  | .nx _ => M.ret .non
  | .rt d => M.ret d
  | _ => M.bad
  else M.bad
def runG (n m : Nat) (body : Env8 → M Fl) : List D → M D := fun ds => gc (runF n m body ds)
section
variable {P : Program} {wo : World} {wd : Wd} {mg : Str → Option Value} {base : Heap} {x qual : Str} {st : Stmt} {f : Addr} {fd : FuncData} {N ps : List Str} {k : Nat} {body : Env8 → M Fl}
theorem renv_start {z : Sit} {ds : List D} {vs : List V} (r : RepL wd z ds vs) (hl : ds.length ≤ N.length) : REnv wd z (ds.map some ++ List.replicate (N.length - ds.length) none) (L2.start N vs) := by
  unfold L2.start
  rw [r.length]
  refine ⟨by simp [r.length], fun i d h => ?_⟩
  by_cases hi : i < ds.length
  · rw [List.getElem?_append_left (by simpa using hi), List.getElem?_map] at h
    cases e : ds[i]? with
    | none => rw [e] at h; cases h
    | some d' =>
      rw [e] at h
      cases h
      obtain ⟨v, h1, h2⟩ := r.get e
      exact ⟨v, by rw [List.getElem?_append_left (by rw [List.length_map, ← r.length]; exact hi), List.getElem?_map, h1]; rfl, h2⟩
  · rw [List.getElem?_append_right (by simpa using hi), List.getElem?_replicate] at h
    split at h <;> cases h
theorem body_at {X : Cx} {E : XK} {n : Nat} {vs : List V} {H : Hp} {Q : VK} {sts : List Stmt} (hn : n ≤ N.length) (hb : PMSs X wd E sts body) (h : spM wd n (runF n N.length body) vs H Q E) : ∃ t, PSs X sts t ∧ t { nx := fun _ H' => Q .non H', rt := Q } (L2.start N vs) H := by
  refine ⟨_, hb, ?_⟩
  obtain ⟨hl, ds, z, eH, G, r, o⟩ := h
  unfold runF at o
  split at o
  · rename_i hd
    have re := renv_start (N := N) r (by omega)
    rw [hd] at re
    refine ⟨_, z, eH, G, re, (Out.bnd o).imp fun r z1 x1 g1 o1 => ?_⟩
    cases r with
    | nx e => exact fun σ _ => (Out.ret (show Out wd z1 (M.ret D.non z1.S) (PQ wd Q) E from o1) g1 rfl) _ rep_non
    | rt d => exact fun v rv => (Out.ret (show Out wd z1 (M.ret d z1.S) (PQ wd Q) E from o1) g1 rfl) v rv
    | bk e => exact (show False from o1).elim
    | ct e => exact (show False from o1).elim
  · exact o.elim
theorem fn_ok (F : Fun wd.K x qual st f fd) (S : FnScope N ps (defScope st)) (hn : ps.length ≤ N.length) (hb : ∀ (cdv : Value) (A : Around) (outer : List Env) (s : Shared) (H : Hp) (E : XK), Room k (A.deeper (envOfC qual (defScope st) s.heap.objs.size f cdv)) →
    PMSs (cxOf (L2.CX P wo) P wo wd.K mg base N qual (defScope st) f cdv A outer s H E) wd E (defBody st) body) : FnOk P wo wd.K mg base (L2.CX P wo) (k + 1) f fd ps (spM wd ps.length (runF ps.length N.length body)) :=
  F.okX S (fun _ _ _ _ h => h.1) fun cdv A outer s H vs Q E hr h => body_at hn (hb cdv A outer s H E hr) h
theorem fn_okG (F : Fun wd.K x qual st f fd) (S : FnScope N ps (defScope st)) (hn : ps.length ≤ N.length) (hb : ∀ (cdv : Value) (A : Around) (outer : List Env) (s : Shared) (H : Hp) (E : XK), (A.deeper (envOfC qual (defScope st) s.heap.objs.size f cdv)).guards = some [] → Room k (A.deeper (envOfC qual (defScope st) s.heap.objs.size f cdv)) →
    PMSs (cxOf (L2.CX P wo) P wo wd.K mg base N qual (defScope st) f cdv A outer s H E) wd E (defBody st) body) : FnG P wo wd.K mg base (L2.CX P wo) (k + 1) f fd ps (spM wd ps.length (runF ps.length N.length body)) :=
  Fun.okG F S (fun _ _ _ _ h => h.1) fun cdv A outer s H vs Q E hg hr h => body_at hn (hb cdv A outer s H E hg hr) h
theorem spM_gc {n : Nat} {F : List D → M D} {vs : List V} {H : Hp} {Q : VK} {E : XK} (h : spM wd n (fun ds => gc (F ds)) vs H Q E) : spM wd n F vs H Q E := by
  obtain ⟨hl, ds, z, eH, G, r, o⟩ := h
  exact ⟨hl, ds, z, eH, G, r, Out.gc G o⟩
theorem FnOk.gc {F : List D → M D} {CX : CXT} {n : Nat} (h : FnOk P wo wd.K mg base CX k f fd ps (spM wd n F)) : FnOk P wo wd.K mg base CX k f fd ps (spM wd n fun ds => gc (F ds)) := h.imp fun _ _ _ _ q => spM_gc q
theorem FnG.gc {F : List D → M D} {CX : CXT} {n : Nat} (h : FnG P wo wd.K mg base CX k f fd ps (spM wd n F)) : FnG P wo wd.K mg base CX k f fd ps (spM wd n fun ds => gc (F ds)) :=
  ⟨fun vs H Q E q => h.len vs H Q E (spM_gc q), fun A outer s H args us vs Q E hg hr he hb hv hs => h.run A outer s H args us vs Q E hg hr he hb hv (spM_gc hs)⟩
end
/-- a function that takes n arguments -/
def Ar (n : Nat) (G : List D → M D) : Prop := ∀ ds S, ds.length ≠ n → G ds S = .bad
theorem ar_runF {n m : Nat} {body : Env8 → M Fl} : Ar n (runF n m body) := fun ds S h => by unfold runF; rw [if_neg h]; rfl
theorem ar_gc {n : Nat} {G : List D → M D} (h : Ar n G) : Ar n (fun ds => gc (G ds)) := fun ds S q => by show gc (G ds) S = .bad; unfold gc; rw [h ds S q]
theorem ar_runG {n m : Nat} {body : Env8 → M Fl} : Ar n (runG n m body) := ar_gc ar_runF
theorem sp_of {w : Wd} {z : Sit} {n : Nat} {G : List D → M D} {as : List D} {xs : List V} {Q : VK} {E : XK} (ar : Ar n G) (g : Good w z) (r : RepL w z as xs) (o : Out w z (G as z.S) (PQ w Q) E) : spM w n G xs z.H Q E := by
  refine ⟨?_, as, z, rfl, g, r, o⟩
  by_cases h : as.length = n
  · rw [← r.length]; exact h
  · rw [ar as z.S h] at o; exact o.elim
/-! ### calls -/
theorem pass0E {X : Cx} : Passes (L2.CX X.prog X.w) X E0 := fun _ _ _ _ _ _ _ ⟨_, _, _, _, _, _, _, _, _, _, _, _, h⟩ => h.elim
section
variable {X : Cx} {w : Wd} {E : XK} {k n : Nat} {f : Addr} {fd : FuncData} {ps : List Str} {G : List D → M D} {x : Str} {p pos : Pos} {e : Expr} {es : List Expr} {fs : Env8 → M (List D)}
theorem pm_call (F : FnOk X.prog X.w X.K X.mg X.base (L2.CX X.prog X.w) k f fd ps (spM w n G)) (ar : Ar n G) (hr : Room k X.A) (hg : Gl X x) (hm : X.mg x = some (.ref f)) (hk : PySem.W.keepIn X.K (.ref f) = true) (hb : L2.Binds X.K fd ps []) (hx : Passes (L2.CX X.prog X.w) X E) (A : PMA X w E (e :: es) fs)
    (hdb : (x == ("__debug__" : Str)) = false := by decide) (he : starEach (e :: es) X.env = (false, eval e X.env) :: starEach es X.env := by rfl) (hpl : (backTo pos (starEach es X.env)).any (·.1) = false := by rfl) : PM X w E (.Call (.Name x p) (e :: es) [] pos) (f1 G fs) :=
  (pe_call F hr hg hm hk hb .nil hx A hdb he hpl).wk fun σ H Q ⟨env, z, eH, G0, re, o⟩ => ⟨env, z, eH, G0, re, (Out.bnd o).imp fun as z1 x1 g1 o1 xs rx => by
    simp only [List.append_nil]
    exact sp_of ar g1 rx o1⟩
theorem pm_call0 (F : FnOk X.prog X.w X.K X.mg X.base (L2.CX X.prog X.w) k f fd ps (spM w n G)) (ar : Ar n G) (hr : Room k X.A) (hg : Gl X x) (hm : X.mg x = some (.ref f)) (hk : PySem.W.keepIn X.K (.ref f) = true) (hb : L2.Binds X.K fd ps []) (hx : Passes (L2.CX X.prog X.w) X E)
    (hdb : (x == ("__debug__" : Str)) = false := by decide) : PM X w E (.Call (.Name x p) [] [] pos) (fun _ => G []) :=
  (pe_call0 F hr hg hm hk hb .nil hx hdb).wk fun σ H Q ⟨env, z, eH, G0, re, o⟩ => by
    subst eH
    exact sp_of ar G0 RepL.nil o
theorem pm_callG (F : FnG X.prog X.w X.K X.mg X.base (L2.CX X.prog X.w) k f fd ps (spM w n G)) (ar : Ar n G) (hgd : X.A.guards = some []) (hr : Room k X.A) (hg : Gl X x) (hm : X.mg x = some (.ref f)) (hk : PySem.W.keepIn X.K (.ref f) = true) (hb : L2.Binds X.K fd ps []) (hx : Passes (L2.CX X.prog X.w) X E) (A : PMA X w E (e :: es) fs)
    (hdb : (x == ("__debug__" : Str)) = false := by decide) (he : starEach (e :: es) X.env = (false, eval e X.env) :: starEach es X.env := by rfl) (hpl : (backTo pos (starEach es X.env)).any (·.1) = false := by rfl) : PM X w E (.Call (.Name x p) (e :: es) [] pos) (f1 G fs) :=
  (pe_callG F hgd hr hg hm hk hb hx A hdb he hpl).wk fun σ H Q ⟨env, z, eH, G0, re, o⟩ => ⟨env, z, eH, G0, re, (Out.bnd o).imp fun as z1 x1 g1 o1 xs rx => by
    simp only [List.append_nil]
    exact sp_of ar g1 rx o1⟩
theorem pm_call0G (F : FnG X.prog X.w X.K X.mg X.base (L2.CX X.prog X.w) k f fd ps (spM w n G)) (ar : Ar n G) (hgd : X.A.guards = some []) (hr : Room k X.A) (hg : Gl X x) (hm : X.mg x = some (.ref f)) (hk : PySem.W.keepIn X.K (.ref f) = true) (hb : L2.Binds X.K fd ps []) (hx : Passes (L2.CX X.prog X.w) X E)
    (hdb : (x == ("__debug__" : Str)) = false := by decide) : PM X w E (.Call (.Name x p) [] [] pos) (fun _ => G []) :=
  (pe_call0G F hgd hr hg hm hk hb hx hdb).wk fun σ H Q ⟨env, z, eH, G0, re, o⟩ => by
    subst eH
    exact sp_of ar G0 RepL.nil o
/-! keywords -/
abbrev PMK (X : Cx) (w : Wd) (E : XK) (kws : List Keyword) (f : Env8 → M (List D)) : Prop := PK X kws (tMA w E f)
theorem _root_.L2.PK.wk {X : Cx} {kws : List Keyword} {t u : TA} (p : PK X kws t) (h : ∀ σ H Q, u σ H Q → t σ H Q) : PK X kws u := ⟨fun pos pins s σ H Q I x => p.run pos pins s σ H Q I (h σ H Q x)⟩
theorem pmk_nil : PMK X w E [] fNil := pk_nil.wk fun σ H Q ⟨env, z, eH, G, re, o⟩ => by
  subst eH
  exact (Out.ret o G rfl) [] RepL.nil
theorem pmk_cons {nm : Option Str} {kpos : Pos} {kws : List Keyword} {fa : Env8 → M D} {fr : Env8 → M (List D)} (p : PM X w E e fa) (q : PMK X w E kws fr) : PMK X w E (⟨nm, e, kpos⟩ :: kws) (fCons fa fr) := (pk_cons p q).wk fun σ H Q ⟨env, z, eH, G, re, o⟩ =>
  ⟨env, z, eH, G, re, (Out.bnd o).imp fun a z1 x1 g1 o1 x rx => ⟨env, z1, rfl, g1, re.mono x1.vx, (Out.bnd o1).imp fun as z2 x2 g2 o2 xs rxs => (Out.ret o2 g2 rfl) (x :: xs) (RepL.cons (rx.mono x2.vx) rxs)⟩⟩
/-! ### objects -/
/-- C(..) by the function of its __init__; the object may be written no more -/
def mkIns (c : Nat) (G : List D → M D) (ds : List D) : M D := gc fun S => match G (.loc S.length :: ds) (S ++ [.ins c []]) with
  | .ok .non S' => match S'[S.length]? with
    | some (.ins c' fs) => .ok (.ins c' fs) (S'.set S.length .off)
    | _ => .bad
  | .er c' fs S' => .er c' fs S'
  | _ => .bad
/-- .. that may be written -/
def mkLoc (c : Nat) (G : List D → M D) (ds : List D) : M D := fun S => match G (.loc S.length :: ds) (S ++ [.ins c []]) with
  | .ok .non S' => .ok (.loc S.length) S'
  | .er c' fs S' => .er c' fs S'
  | _ => .bad
section
variable {c : Nat} {z : Sit} {ds : List D} {vs : List V} {Q : VK}
def newIns (z : Sit) (w : Wd) (c : Nat) (x dx : Addr) : Sit := z.add x (.ins c []) (upd (upd z.H dx (.own x)) x (.ins (w.cm c) dx []))
theorem newIns_ok (g : Good w z) {x dx : Addr} (hx : z.H x = none) (hd : z.H dx = none) (ne : dx ≠ x) : Ex z (newIns z w c x dx) ∧ Good w (newIns z w c x dx) ∧ Rep w (newIns z w c x dx) (.loc z.S.length) (.ref x) := by
  have s : Same z.H (upd (upd z.H dx (.own x)) x (.ins (w.cm c) dx [])) := fun b o e => by rw [upd_ne (ne_of_none e hx), upd_ne (ne_of_none e hd)]; exact e
  refine ⟨Ex.add g hx s, g.add hx s ⟨dx, [], upd_same, by rw [RepF]⟩ (by rw [upd_same]; simp), ?_⟩
  rw [Rep]
  refine ⟨x, rfl, ?_⟩
  show (z.mu ++ [x])[z.S.length]? = some x
  rw [← g.len, List.getElem?_append_right (Nat.le_refl _), Nat.sub_self]
  rfl
theorem mkLoc_at (ar : Ar n G) (g : Good w z) (r : RepL w z ds vs) (o : Out w z (mkLoc c G ds z.S) (PQ w Q) E) : ∀ x dx, z.H x = none → z.H dx = none → dx ≠ x →
    spM w n G (.ref x :: vs) (upd (upd z.H dx (.own x)) x (.ins (w.cm c) dx [])) (fun v H2 => v = .non ∧ Q (.ref x) H2) E := fun x dx hx hd ne => by
  obtain ⟨x1, g1, r1⟩ := newIns_ok (c := c) g hx hd ne
  refine sp_of (z := newIns z w c x dx) ar g1 (RepL.cons r1 (r.mono x1.vx)) ?_
  unfold mkLoc at o
  show Out w _ (G (.loc z.S.length :: ds) (z.S ++ [.ins c []])) _ _
  cases e : G (.loc z.S.length :: ds) (z.S ++ [.ins c []]) with
  | bad => rw [e] at o; exact o
  | er c' fs S' => rw [e] at o; exact Out.at (r := (Res.er c' fs S' : Res D)) x1 o
  | ok d S' =>
    rw [e] at o
    cases d with
    | non =>
      intro z' eS x' g' v rv
      rw [Rep] at rv
      refine ⟨rv, o z' eS (x1.trans x') g' _ (r1.mono x'.vx)⟩
    | _ => exact (show False from o).elim
theorem mkIns_at (ar : Ar n G) (g : Good w z) (r : RepL w z ds vs) (o : Out w z (mkIns c G ds z.S) (PQ w Q) E) : ∀ x dx, z.H x = none → z.H dx = none → dx ≠ x →
    spM w n G (.ref x :: vs) (upd (upd z.H dx (.own x)) x (.ins (w.cm c) dx [])) (fun v H2 => v = .non ∧ Q (.ref x) H2) E := fun x dx hx hd ne => by
  obtain ⟨x1, g1, r1⟩ := newIns_ok (c := c) g hx hd ne
  refine sp_of (z := newIns z w c x dx) ar g1 (RepL.cons r1 (r.mono x1.vx)) ?_
  have o := Out.gc g o
  show Out w _ (G (.loc z.S.length :: ds) (z.S ++ [.ins c []])) _ _
  cases e : G (.loc z.S.length :: ds) (z.S ++ [.ins c []]) with
  | bad => rw [e] at o; exact o
  | er c' fs S' => rw [e] at o; exact Out.at (r := (Res.er c' fs S' : Res D)) x1 o
  | ok d S' =>
    rw [e] at o
    cases d with
    | non =>
      intro z' eS x' g' v rv
      rw [Rep] at rv
      refine ⟨rv, ?_⟩
      dsimp only at o
      have r2 := r1.mono x'.vx
      rw [Rep] at r2
      obtain ⟨a, ea, hm⟩ := r2
      cases ea
      split at o
      · rename_i c' fs hS
        rw [← eS] at hS
        obtain ⟨dx', us, hH, rf⟩ := g'.at_ _ _ _ hm hS
        refine o (z'.wr z.S.length .off z'.H) (by rw [← eS]; rfl) ((x1.trans x').trans Ex.frz) g'.frz _ ?_
        rw [Rep]
        refine ⟨x, dx', us, rfl, fun l => ?_, hH, rf.mono Ex.frz.vx⟩
        rcases l with l | l
        · exact not_own_frz g' hm l
        · exact g'.dis x (List.mem_of_getElem? hm) l
      · exact o.elim
    | _ => exact (show False from o).elim
end
theorem pm_make {c : Nat} (M : Mk X.K (w.cm c) f) (F : FnOk X.prog X.w X.K X.mg X.base (L2.CX X.prog X.w) k f fd ps (spM w n G)) (ar : Ar n G) (hr : Room (k + 1) X.A) (hg : Gl X x) (hm : X.mg x = some (.ref (w.cm c))) (hb : L2.Binds X.K fd ps []) (hx : Passes (L2.CX X.prog X.w) X E) (A : PMA X w E (e :: es) fs)
    (hdb : (x == ("__debug__" : Str)) = false := by decide) (he : starEach (e :: es) X.env = (false, eval e X.env) :: starEach es X.env := by rfl) (hpl : (backTo pos (starEach es X.env)).any (·.1) = false := by rfl) : PM X w E (.Call (.Name x p) (e :: es) [] pos) (f1 (mkIns c G) fs) :=
  (pe_make M F hr hg hm hb .nil hx A hdb he hpl).wk fun σ H Q ⟨env, z, eH, G0, re, o⟩ => ⟨env, z, eH, G0, re, (Out.bnd o).imp fun as z1 x1 g1 o1 xs rx => by
    simp only [List.append_nil]
    exact mkIns_at ar g1 rx o1⟩
theorem pm_makeL {c : Nat} (M : Mk X.K (w.cm c) f) (F : FnOk X.prog X.w X.K X.mg X.base (L2.CX X.prog X.w) k f fd ps (spM w n G)) (ar : Ar n G) (hr : Room (k + 1) X.A) (hg : Gl X x) (hm : X.mg x = some (.ref (w.cm c))) (hb : L2.Binds X.K fd ps []) (hx : Passes (L2.CX X.prog X.w) X E) (A : PMA X w E (e :: es) fs)
    (hdb : (x == ("__debug__" : Str)) = false := by decide) (he : starEach (e :: es) X.env = (false, eval e X.env) :: starEach es X.env := by rfl) (hpl : (backTo pos (starEach es X.env)).any (·.1) = false := by rfl) : PM X w E (.Call (.Name x p) (e :: es) [] pos) (f1 (mkLoc c G) fs) :=
  (pe_make M F hr hg hm hb .nil hx A hdb he hpl).wk fun σ H Q ⟨env, z, eH, G0, re, o⟩ => ⟨env, z, eH, G0, re, (Out.bnd o).imp fun as z1 x1 g1 o1 xs rx => by
    simp only [List.append_nil]
    exact mkLoc_at ar g1 rx o1⟩
/-! C(k = v, ..) -/
theorem RepL.pick {z : Sit} {zs : List D} {vs : List V} (r : RepL w z zs vs) : ∀ is : List Nat, RepL w z (is.filterMap fun i => zs[i]?) (is.filterMap fun i => vs[i]?)
  | [] => RepL.nil
  | i :: is => by
    rw [List.filterMap_cons, List.filterMap_cons]
    cases h : zs[i]? with
    | none =>
      have : vs[i]? = none := by
        have h2 := List.getElem?_eq_none_iff.mp h
        exact List.getElem?_eq_none_iff.mpr (by rw [← r.length]; exact h2)
      rw [this]
      exact RepL.pick r is
    | some d =>
      obtain ⟨v, e, q⟩ := r.get h
      rw [e]
      exact RepL.cons q (RepL.pick r is)
/-- arguments by position, then by keywords, in the order of the parameters -/
def fKw (n m : Nat) (is : List Nat) (fs fk : Env8 → M (List D)) : Env8 → M (List D) := fun env => (fs env).bnd fun ds => (fk env).bnd fun es => if ds.length = n ∧ es.length = m then M.ret (perm is ds es) else M.bad
theorem pm_makeK {c m q : Nat} {is : List Nat} {ks : List Str} {kws : List Keyword} {fk : Env8 → M (List D)} (M : Mk X.K (w.cm c) f) (F : FnOk X.prog X.w X.K X.mg X.base (L2.CX X.prog X.w) k f fd ps (spM w n G)) (ar : Ar n G) (hr : Room (k + 1) X.A) (hg : Gl X x) (hm : X.mg x = some (.ref (w.cm c))) (hb : KBn X.K fd ps (q + 1) ks (perm is) (perm is)) (hx : Passes (L2.CX X.prog X.w) X E) (A : PMA X w E (e :: es) fs) (B : PMK X w E kws fk)
    (hall : (backToKw pos (keywordEach kws X.env)).all (·.1.isSome) = true := by rfl) (hks : (backToKw pos (keywordEach kws X.env)).filterMap (·.1) = ks := by rfl) (hdb : (x == ("__debug__" : Str)) = false := by decide) (he : starEach (e :: es) X.env = (false, eval e X.env) :: starEach es X.env := by rfl)
    (hpl : ((backTo pos (starEach (e :: es) X.env)).any (·.1) || (backToKw pos (keywordEach kws X.env)).any (·.1.isNone)) = false := by rfl) (hmm : m = ks.length := by rfl) : PM X w E (.Call (.Name x p) (e :: es) kws pos) (f1 (mkIns c G) (fKw q m is fs fk)) := by
  subst hmm
  exact (pe_makeK M F hr hg hm hb hx A B hall hks hdb he hpl).wk fun σ H Q ⟨env, z, eH, G0, re, o⟩ => ⟨env, z, eH, G0, re, (Out.bnd (Out.bnd o)).imp fun as z1 x1 g1 o1 xs rx => ⟨env, z1, rfl, g1, re.mono x1.vx, (Out.bnd o1).imp fun bs z2 x2 g2 o2 ys ry => by
    split at o2
    · rename_i h
      have o3 := Out.ret o2 g2 rfl
      have rx := rx.mono x2.vx
      refine ⟨by rw [← rx.length]; exact h.1, by rw [← ry.length]; exact h.2, fun x dx hx hd ne => ?_⟩
      exact mkIns_at ar g2 (rx.append (RepL.pick ry is)) o3 x dx hx hd ne
    · exact o2.elim⟩⟩
theorem pm_makeK0 {c m : Nat} {is : List Nat} {ks : List Str} {kws : List Keyword} {fk : Env8 → M (List D)} (M : Mk X.K (w.cm c) f) (F : FnOk X.prog X.w X.K X.mg X.base (L2.CX X.prog X.w) k f fd ps (spM w n G)) (ar : Ar n G) (hr : Room (k + 1) X.A) (hg : Gl X x) (hm : X.mg x = some (.ref (w.cm c))) (hb : KBn X.K fd ps 1 ks (perm is) (perm is)) (hx : Passes (L2.CX X.prog X.w) X E) (B : PMK X w E kws fk)
    (hall : (backToKw pos (keywordEach kws X.env)).all (·.1.isSome) = true := by rfl) (hks : (backToKw pos (keywordEach kws X.env)).filterMap (·.1) = ks := by rfl) (hdb : (x == ("__debug__" : Str)) = false := by decide) (hpl : ((backTo pos (starEach [] X.env)).any (·.1) || (backToKw pos (keywordEach kws X.env)).any (·.1.isNone)) = false := by rfl) (hmm : m = ks.length := by rfl) : PM X w E (.Call (.Name x p) [] kws pos) (f1 (mkIns c G) (fKw 0 m is fNil fk)) := by
  subst hmm
  exact (pe_makeK0 M F hr hg hm hb hx B hall hks hdb hpl).wk fun σ H Q ⟨env, z, eH, G0, re, o⟩ => by
    have o1 := Out.bnd (Out.bnd o)
    have o1 := Out.ret o1 G0 rfl
    refine ⟨env, z, eH, G0, re, (Out.bnd o1).imp fun bs z2 x2 g2 o2 ys ry => ?_⟩
    split at o2
    · rename_i h
      have o3 := Out.ret o2 g2 rfl
      refine ⟨rfl, by rw [← ry.length]; exact h.2, fun x dx hx hd ne => ?_⟩
      exact mkIns_at ar g2 (RepL.append RepL.nil (RepL.pick ry is)) o3 x dx hx hd ne
    · exact o2.elim
end
end Ol

namespace Ol
open PySem PySem.Spec PyProof.Rows L2
/-! ### fields -/
def lookF (f : Str) : List (Str × D) → Option D
  | [] => none
  | (g, d) :: r => if g = f then some d else lookF f r
def putFD (f : Str) (v : D) : List (Str × D) → List (Str × D)
  | [] => [(f, v)]
  | (g, x) :: r => if g = f then (g, v) :: r else (g, x) :: putFD f v r
section
variable {w : Wd} {z : Sit} {f : Str}
theorem RepF.look : ∀ {fs : List (Str × D)} {us : List (Str × V)} {d : D}, RepF w z fs us → lookF f fs = some d → ∃ v, us.lookup f = some v ∧ Rep w z d v
  | [], _, _, _, e => by cases e
  | (g, x) :: r, us, d, h, e => by
    rw [RepF] at h
    obtain ⟨v, q, rfl, h1, h2⟩ := h
    unfold lookF at e
    split at e
    · rename_i hg
      cases e
      exact ⟨v, by rw [List.lookup_cons, hg]; simp, h1⟩
    · rename_i hg
      obtain ⟨u, h3, h4⟩ := RepF.look h2 e
      refine ⟨u, ?_, h4⟩
      rw [List.lookup_cons]
      have : (f == g) = false := beq_eq_false_iff_ne.mpr (Ne.symm hg)
      rw [this]
      exact h3
theorem RepF.lookN : ∀ {fs : List (Str × D)} {us : List (Str × V)}, RepF w z fs us → lookF f fs = none → us.lookup f = none
  | [], _, h, _ => by rw [RepF] at h; rw [h]; rfl
  | (g, x) :: r, us, h, e => by
    rw [RepF] at h
    obtain ⟨v, q, rfl, h1, h2⟩ := h
    unfold lookF at e
    split at e
    · cases e
    · rename_i hg
      rw [List.lookup_cons]
      have : (f == g) = false := beq_eq_false_iff_ne.mpr (Ne.symm hg)
      rw [this]
      exact RepF.lookN h2 e
theorem RepF.length : ∀ {fs : List (Str × D)} {us : List (Str × V)}, RepF w z fs us → fs.length = us.length
  | [], _, h => by rw [RepF] at h; rw [h]; rfl
  | (g, x) :: r, us, h => by
    rw [RepF] at h
    obtain ⟨v, q, rfl, h1, h2⟩ := h
    simp [RepF.length h2]
theorem RepF.put {d : D} {v : V} (q : Rep w z d v) : ∀ {fs : List (Str × D)} {us : List (Str × V)}, RepF w z fs us → RepF w z (putFD f d fs) (putF f v us)
  | [], _, h => by
    rw [RepF] at h
    rw [h]
    unfold putFD putF
    rw [RepF]
    exact ⟨v, [], rfl, q, by rw [RepF]⟩
  | (g, x) :: r, us, h => by
    rw [RepF] at h
    obtain ⟨u, t, rfl, h1, h2⟩ := h
    unfold putFD putF
    by_cases hg : g = f
    · rw [if_pos hg, if_pos hg, RepF]
      exact ⟨v, t, rfl, q, h2⟩
    · rw [if_neg hg, if_neg hg, RepF]
      exact ⟨u, _, rfl, h1, RepF.put q h2⟩
end
/-- classes that have no attribute of this name -/
def AttrOk (w : Wd) (f : Str) (cs : List Nat) : Prop := ∀ c ∈ cs, Cls w.K (w.cm c) ∧ NoAttr w.K (w.cm c) f
theorem attr_nil {w : Wd} {f : Str} : AttrOk w f [] := fun _ h => by cases h
theorem attr_cons {w : Wd} {f : Str} {c : Nat} {cs : List Nat} (h1 : Cls w.K (w.cm c)) (h2 : NoAttr w.K (w.cm c) f) (r : AttrOk w f cs) : AttrOk w f (c :: cs) := fun d h => by
  rcases List.mem_cons.mp h with e | h
  · rw [e]; exact ⟨h1, h2⟩
  · exact r d h
def dFld (cs : List Nat) (f : Str) (d : D) : M D := fun S => match asI S d with
  | some (c, fs) => if c ∈ cs then (match lookF f fs with | some v => .ok v S | none => .bad) else .bad
  | none => .bad
/-- a constant text of the class -/
def ConOk (w : Wd) (f : Str) (tb : List (Nat × D)) : Prop := ∀ p ∈ tb, Cls w.K (w.cm p.1) ∧ ∃ v u, Con w.K (w.cm p.1) f v u ∧ ∀ z, Rep w z p.2 v
theorem con_nil {w : Wd} {f : Str} : ConOk w f [] := fun _ h => by cases h
theorem con_cons {w : Wd} {f : Str} {c : Nat} {s : Str} {tb : List (Nat × D)} (h1 : Cls w.K (w.cm c)) (h2 : ∃ u, Con w.K (w.cm c) f (.str s) u) (r : ConOk w f tb) : ConOk w f ((c, .str s) :: tb) := fun d h => by
  rcases List.mem_cons.mp h with e | h
  · rw [e]
    obtain ⟨u, h2⟩ := h2
    exact ⟨h1, _, u, h2, fun _ => rep_str⟩
  · exact r d h
def lookC {α : Type} (c : Nat) : List (Nat × α) → Option α
  | [] => none
  | (d, a) :: r => if d = c then some a else lookC c r
theorem lookC_mem {α : Type} {c : Nat} {a : α} : ∀ {l : List (Nat × α)}, lookC c l = some a → (c, a) ∈ l
  | [], h => by cases h
  | (d, b) :: r, h => by
    unfold lookC at h
    split at h
    · rename_i e
      cases h
      rw [e]
      exact List.mem_cons_self
    · exact List.mem_cons_of_mem _ (lookC_mem h)
def dCon (tb : List (Nat × D)) (f : Str) (d : D) : M D := fun S => match asI S d with
  | some (c, fs) => (match lookF f fs, lookC c tb with | none, some v => .ok v S | _, _ => .bad)
  | none => .bad
def sSetF (cs : List Nat) (f : Str) (fo fv : Env8 → M D) : Env8 → M Fl := fun env => (fv env).bnd fun v => (fo env).bnd fun o S => match o with
  | .loc i => match S[i]? with
    | some (.ins c fs) => if c ∈ cs ∧ fs.length < 1000 then .ok (.nx env) (S.set i (.ins c (putFD f v fs))) else .bad
    | _ => .bad
  | _ => .bad
section
variable {X : Cx} {w : Wd} {E : XK} {e a b c o value : Expr} {fa fb fc fo fv : Env8 → M D} {pos pos' : Pos} {f : Str} {cs : List Nat}
theorem Out.okv {z : Sit} {d : D} {Q : VK} {v : V} (o : Out w z (.ok d z.S) (PQ w Q) E) (g : Good w z) (r : Rep w z d v) : Q v z.H := o z rfl (Ex.refl _) g _ r
theorem pm_fld (hK : X.K = w.K) (T : AttrOk w f cs) (A : PM X w E e fa) (hb : attributeBase e f X.env (eval e X.env) = eval e X.env) : PM X w E (.Attribute e f pos) (f1 (dFld cs f) fa) := by
  have p := pe_fld (pos := pos) A hb
  rw [hK] at p
  refine p.wk fun σ H Q ⟨env, z, eH, G, re, o⟩ => ⟨env, z, eH, G, re, (Out.bnd o).imp fun d z1 x1 g1 o1 v rv => ?_⟩
  unfold dFld at o1
  split at o1
  · rename_i c fs h
    split at o1
    · rename_i hc
      split at o1
      · rename_i u hu
        obtain ⟨p, dx, us, e1, h4, r4⟩ := asI_at g1 rv h
        obtain ⟨y, h5, r5⟩ := r4.look hu
        exact ⟨p, _, dx, us, y, e1, h4, (T c hc).1, (T c hc).2, h5, o1.okv g1 r5⟩
      · exact o1.elim
    · exact o1.elim
  · exact o1.elim
theorem pm_con {tb : List (Nat × D)} (hK : X.K = w.K) (T : ConOk w f tb) (A : PM X w E e fa) (hb : attributeBase e f X.env (eval e X.env) = eval e X.env) : PM X w E (.Attribute e f pos) (f1 (dCon tb f) fa) := by
  have p := pe_con (pos := pos) A hb
  rw [hK] at p
  refine p.wk fun σ H Q ⟨env, z, eH, G, re, o⟩ => ⟨env, z, eH, G, re, (Out.bnd o).imp fun d z1 x1 g1 o1 v rv => ?_⟩
  unfold dCon at o1
  split at o1
  · rename_i c fs h
    split at o1
    · rename_i u h1 hu
      obtain ⟨p, dx, us, e1, h4, r4⟩ := asI_at g1 rv h
      obtain ⟨h6, y, y', h7, h8⟩ := T _ (lookC_mem hu)
      exact ⟨p, _, dx, us, y, y', e1, h4, h6, h7, r4.lookN h1, o1.okv g1 (h8 z1)⟩
    · exact o1.elim
  · exact o1.elim
theorem pms_fld (hK : X.K = w.K) (T : AttrOk w f cs) (A : PM X w E o fo) (B : PM X w E value fv) (hs : swapsWith value (some (.Attribute o f pos')) pos.line X.env = pure false) : PMS X w E (.Assign [.Attribute o f pos'] value pos) (sSetF cs f fo fv) := by
  have p := ps_fld A B hs
  rw [hK] at p
  refine p.wk fun De σ H ⟨env, z, eH, G, re, o⟩ => ⟨env, z, eH, G, re, (Out.bnd o).imp fun d z1 x1 g1 o1 v rv => ⟨env, z1, rfl, g1, re.mono x1.vx, (Out.bnd o1).imp fun d' z2 x2 g2 o2 u ru => ?_⟩⟩
  split at o2
  · rename_i i
    split at o2
    · rename_i c fs hS
      split at o2
      · rename_i hc
        rw [Rep] at ru
        obtain ⟨p, e1, hm⟩ := ru
        obtain ⟨dx, us, hH, rf⟩ := g2.at_ _ _ _ hm hS
        have rv2 := rv.mono x2.vx
        have x3 : Ex z2 (z2.wr i (.ins c (putFD f d fs)) (upd z2.H p (.ins (w.cm c) dx (putF f v us)))) := Ex.wr hm hS rfl
        refine ⟨p, _, dx, us, e1, hH, (T c hc.1).1, (T c hc.1).2, by rw [← rf.length]; exact hc.2, ?_⟩
        exact o2 (z2.wr i (.ins c (putFD f d fs)) (upd z2.H p (.ins (w.cm c) dx (putF f v us)))) rfl x3 (g2.wr hm hS rfl ⟨dx, _, upd_same, (RepF.put rv2 rf).mono x3.vx⟩) σ (((re.mono x1.vx).mono x2.vx).mono x3.vx)
      · exact o2.elim
    · exact o2.elim
  · exact o2.elim
end
/-! ### methods -/
def MethOk (X : Cx) (w : Wd) (m : Str) (c : Nat) (G : List D → M D) : Prop := ∃ (k : Nat) (f : Addr) (fd : FuncData) (ps : List Str), Cls X.K (w.cm c) ∧ Meth X.K (w.cm c) m f ∧ FnOk X.prog X.w X.K X.mg X.base (L2.CX X.prog X.w) k f fd ps (spM w ps.length G) ∧ Room k X.A ∧ L2.Binds X.K fd ps [] ∧ Ar ps.length G
def MAll (X : Cx) (w : Wd) (m : Str) (tb : List (Nat × (List D → M D))) : Prop := ∀ p ∈ tb, MethOk X w m p.1 p.2
theorem mall_nil {X : Cx} {w : Wd} {m : Str} : MAll X w m [] := fun _ h => by cases h
theorem mall_cons {X : Cx} {w : Wd} {m : Str} {c k : Nat} {G : List D → M D} {f : Addr} {fd : FuncData} {ps : List Str} {tb : List (Nat × (List D → M D))} (h1 : Cls X.K (w.cm c)) (h2 : Meth X.K (w.cm c) m f) (h3 : FnOk X.prog X.w X.K X.mg X.base (L2.CX X.prog X.w) k f fd ps (spM w ps.length G)) (ar : Ar ps.length G) (h4 : Room k X.A) (h5 : L2.Binds X.K fd ps []) (r : MAll X w m tb) : MAll X w m ((c, G) :: tb) := fun d h => by
  rcases List.mem_cons.mp h with e | h
  · rw [e]; exact ⟨k, f, fd, ps, h1, h2, h3, h4, h5, ar⟩
  · exact r d h
def methOf (m : Str) (tb : List (Nat × (List D → M D))) (o : D) (k : (List D → M D) → M D) : M D := fun S => match asI S o with
  | some (c, fs) => (match lookF m fs, lookC c tb with | none, some G => k G S | _, _ => .bad)
  | none => .bad
def fMeth (m : Str) (tb : List (Nat × (List D → M D))) (fo : Env8 → M D) (fs : Env8 → M (List D)) : Env8 → M D := fun env => (fo env).bnd fun o => methOf m tb o fun G => (fs env).bnd fun ds => G (o :: ds)
section
variable {X : Cx} {w : Wd} {E : XK} {e o : Expr} {es : List Expr} {fo : Env8 → M D} {fs : Env8 → M (List D)} {apos pos : Pos} {m : Str} {tb : List (Nat × (List D → M D))}
theorem pe_ex {ι : Type} {e : Expr} {t : ι → TE} {p : ι → Prop} (h : ∀ i, p i → PE X e (t i)) : PE X e (fun σ H Q => ∃ i, p i ∧ t i σ H Q) := ⟨fun pins s σ H Q I ⟨i, hp, x⟩ => (h i hp).run pins s σ H Q I x⟩
theorem pm_meth {pl : Sem Bool} {p0 : Nat × (List D → M D)} (T : MAll X w m (p0 :: tb)) (hx : Passes (L2.CX X.prog X.w) X E) (A : PM X w E o fo) (B : PMA X w E (e :: es) fs)
    (hst : starEach (e :: es) X.env = (false, eval e X.env) :: starEach es X.env := by rfl) (hpl : (backTo pos (starEach es X.env)).any (·.1) = false := by rfl)
    (ht : eval (.Call (.Attribute o m apos) (e :: es) [] pos) X.env = (do
      let ov ← eval o X.env
      standAt apos.atName
      let (f, first) ← holding [ov] (getMethod ov m pl)
      callWith pos f first (backTo pos (starEach (e :: es) X.env)) (backToKw pos (keywordEach [] X.env))) := by rfl) : PM X w E (.Call (.Attribute o m apos) (e :: es) [] pos) (fMeth m (p0 :: tb) fo fs) := by
  refine (pe_ex (ι := Nat × (List D → M D)) (p := fun p => p ∈ p0 :: tb) (t := fun p => fun σ H Q => ∃ n, Ar n p.2 ∧ tMeth (w.cm p.1) m (spM w n p.2) [] E (tM w E fo) (tMA w E fs) σ H Q) fun p hp => ?_).wk fun σ H Q ⟨env, z, eH, G, re, o⟩ => ?_
  · obtain ⟨k, f, fd, ps, h1, h2, h3, h4, h5, h6⟩ := T p hp
    refine (pe_meth (pl := pl) A h1 h2 h3 h4 h5 .nil hx B hst hpl ht).wk fun σ H Q ⟨n, ar, q⟩ => ?_
    obtain ⟨env, z, eH, g, re, o⟩ := q
    refine ⟨env, z, eH, g, re, o.imp fun d z1 x1 g1 q v rv => ?_⟩
    obtain ⟨a, dx, us, e1, hH, hl, q⟩ := q v rv
    refine ⟨a, dx, us, e1, hH, hl, ?_⟩
    obtain ⟨env', z', e', g', re', o'⟩ := q
    refine ⟨env', z', e', g', re', o'.imp fun ds z2 x2 g2 q vs rvs => ?_⟩
    obtain ⟨hlen, ds', z3, e3, g3, r3, o3⟩ := q vs rvs
    have hn : n = ps.length := by
      by_cases hh : n = ps.length
      · exact hh
      · exfalso
        have h7 : ds'.length = n := r3.length.trans hlen
        rw [h6 ds' z3.S (by omega)] at o3
        exact o3
    subst hn
    exact ⟨hlen, ds', z3, e3, g3, r3, o3⟩
  · have o1 := Out.bnd o
    obtain ⟨k0, f0, fd0, ps0, _, _, _, _, _, ar0⟩ := T p0 List.mem_cons_self
    cases h : fo env z.S with
    | bad => rw [h] at o1; exact o1.elim
    | er c fs' S =>
      rw [h] at o1
      exact ⟨p0, List.mem_cons_self, ps0.length, ar0, env, z, eH, G, re, by rw [h]; exact o1⟩
    | ok d S =>
      rw [h] at o1
      have no : (∀ S1, S1 = S → ∀ k, methOf m (p0 :: tb) d k S1 = .bad) → ∃ p, p ∈ p0 :: tb ∧ ∃ n, Ar n p.2 ∧ tMeth (w.cm p.1) m (spM w n p.2) [] E (tM w E fo) (tMA w E fs) σ H Q := fun hb =>
        ⟨p0, List.mem_cons_self, ps0.length, ar0, env, z, eH, G, re, by
          rw [h]
          intro z1 e1 x1 g1
          have := o1 z1 e1 x1 g1
          dsimp only at this
          rw [hb z1.S e1] at this
          exact this.elim⟩
      cases hI : asI S d with
      | none => exact no fun S1 e1 k => by unfold methOf; rw [e1, hI]
      | some q =>
        obtain ⟨c, fs'⟩ := q
        cases hl : lookF m fs' with
        | some u => exact no fun S1 e1 k => by unfold methOf; rw [e1, hI]; dsimp only; rw [hl]
        | none =>
          cases hc : lookC c (p0 :: tb) with
          | none => exact no fun S1 e1 k => by unfold methOf; rw [e1, hI]; dsimp only; rw [hl, hc]
          | some G' =>
            obtain ⟨k1, f1, fd1, ps1, _, _, _, _, _, ar1⟩ := T (c, G') (lookC_mem hc)
            refine ⟨(c, G'), lookC_mem hc, ps1.length, ar1, env, z, eH, G, re, ?_⟩
            rw [h]
            intro z1 e1 x1 g1 v rv
            have o2 := o1 z1 e1 x1 g1
            dsimp only at o2
            have em : methOf m (p0 :: tb) d (fun G => (fs env).bnd fun ds => G (d :: ds)) z1.S = ((fs env).bnd fun ds => G' (d :: ds)) z1.S := by
              unfold methOf
              rw [e1, hI]
              dsimp only
              rw [hl, hc]
            rw [em] at o2
            obtain ⟨a, dx, us, ea, hH, rf⟩ := asI_at g1 rv (by rw [e1]; exact hI)
            refine ⟨a, dx, us, ea, hH, rf.lookN hl, env, z1, rfl, g1, re.mono x1.vx, (Out.bnd o2).imp fun ds z2 x2 g2 o3 vs rvs => ?_⟩
            simp only [List.append_nil]
            exact sp_of ar1 g2 (RepL.cons (rv.mono x2.vx) rvs) o3
end
end Ol

namespace Ol
open PySem PySem.Spec PyProof.Rows L2
def fMeth0 (m : Str) (tb : List (Nat × (List D → M D))) (fo : Env8 → M D) : Env8 → M D := fun env => (fo env).bnd fun o => methOf m tb o fun G => G [o]
section
variable {X : Cx} {w : Wd} {E : XK} {e o : Expr} {es : List Expr} {fo : Env8 → M D} {fs : Env8 → M (List D)} {apos pos : Pos} {m : Str} {tb : List (Nat × (List D → M D))}
theorem pm_meth0 {pl : Sem Bool} {p0 : Nat × (List D → M D)} (T : MAll X w m (p0 :: tb)) (hx : Passes (L2.CX X.prog X.w) X E) (A : PM X w E o fo)
    (ht : eval (.Call (.Attribute o m apos) [] [] pos) X.env = (do
      let ov ← eval o X.env
      standAt apos.atName
      let (f, first) ← holding [ov] (getMethod ov m pl)
      callWith pos f first (backTo pos (starEach [] X.env)) (backToKw pos (keywordEach [] X.env))) := by rfl) : PM X w E (.Call (.Attribute o m apos) [] [] pos) (fMeth0 m (p0 :: tb) fo) := by
  refine (pe_ex (ι := Nat × (List D → M D)) (p := fun p => p ∈ p0 :: tb) (t := fun p => fun σ H Q => ∃ n, Ar n p.2 ∧ tMeth (w.cm p.1) m (spM w n p.2) [] E (tM w E fo) tNil σ H Q) fun p hp => ?_).wk fun σ H Q ⟨env, z, eH, G, re, o⟩ => ?_
  · obtain ⟨k, f, fd, ps, h1, h2, h3, h4, h5, h6⟩ := T p hp
    refine (pe_meth0 (pl := pl) A h1 h2 h3 h4 h5 .nil hx ht).wk fun σ H Q ⟨n, ar, q⟩ => ?_
    obtain ⟨env, z, eH, g, re, o⟩ := q
    refine ⟨env, z, eH, g, re, o.imp fun d z1 x1 g1 q v rv => ?_⟩
    obtain ⟨a, dx, us, e1, hH, hl, q⟩ := q v rv
    refine ⟨a, dx, us, e1, hH, hl, ?_⟩
    obtain ⟨hlen, ds', z3, e3, g3, r3, o3⟩ := q
    have hn : n = ps.length := by
      by_cases hh : n = ps.length
      · exact hh
      · exfalso
        have h7 : ds'.length = n := r3.length.trans hlen
        rw [h6 ds' z3.S (by omega)] at o3
        exact o3
    subst hn
    exact ⟨hlen, ds', z3, e3, g3, r3, o3⟩
  · have o1 := Out.bnd o
    obtain ⟨k0, f0, fd0, ps0, _, _, _, _, _, ar0⟩ := T p0 List.mem_cons_self
    cases h : fo env z.S with
    | bad => rw [h] at o1; exact o1.elim
    | er c fs' S =>
      rw [h] at o1
      exact ⟨p0, List.mem_cons_self, ps0.length, ar0, env, z, eH, G, re, by rw [h]; exact o1⟩
    | ok d S =>
      rw [h] at o1
      have no : (∀ S1, S1 = S → ∀ k, methOf m (p0 :: tb) d k S1 = .bad) → ∃ p, p ∈ p0 :: tb ∧ ∃ n, Ar n p.2 ∧ tMeth (w.cm p.1) m (spM w n p.2) [] E (tM w E fo) tNil σ H Q := fun hb =>
        ⟨p0, List.mem_cons_self, ps0.length, ar0, env, z, eH, G, re, by
          rw [h]
          intro z1 e1 x1 g1
          have := o1 z1 e1 x1 g1
          dsimp only at this
          rw [hb z1.S e1] at this
          exact this.elim⟩
      cases hI : asI S d with
      | none => exact no fun S1 e1 k => by unfold methOf; rw [e1, hI]
      | some q =>
        obtain ⟨c, fs'⟩ := q
        cases hl : lookF m fs' with
        | some u => exact no fun S1 e1 k => by unfold methOf; rw [e1, hI]; dsimp only; rw [hl]
        | none =>
          cases hc : lookC c (p0 :: tb) with
          | none => exact no fun S1 e1 k => by unfold methOf; rw [e1, hI]; dsimp only; rw [hl, hc]
          | some G' =>
            obtain ⟨k1, f1, fd1, ps1, _, _, _, _, _, ar1⟩ := T (c, G') (lookC_mem hc)
            refine ⟨(c, G'), lookC_mem hc, ps1.length, ar1, env, z, eH, G, re, ?_⟩
            rw [h]
            intro z1 e1 x1 g1 v rv
            have o2 := o1 z1 e1 x1 g1
            dsimp only at o2
            have em : methOf m (p0 :: tb) d (fun G => G [d]) z1.S = G' [d] z1.S := by
              unfold methOf
              rw [e1, hI]
              dsimp only
              rw [hl, hc]
            rw [em] at o2
            obtain ⟨a, dx, us, ea, hH, rf⟩ := asI_at g1 rv (by rw [e1]; exact hI)
            refine ⟨a, dx, us, ea, hH, rf.lookN hl, ?_⟩
            exact sp_of ar1 g1 (RepL.cons rv RepL.nil) o2
end
/-! ### kinds -/
inductive Tg where
  | ty (s : String) | own (c : Nat)
  deriving DecidableEq
def Tg.val (w : Wd) : Tg → Value
  | .ty s => .type s
  | .own c => .ref (w.cm c)
def tagOf (S : Store) : D → Option Tg
  | .non => some (.ty "NoneType")
  | .bl _ => some (.ty "bool")
  | .int _ => some (.ty "int")
  | .str _ => some (.ty "str")
  | .lst _ => some (.ty "list")
  | .tup _ => some (.ty "tuple")
  | .dct _ => some (.ty "dict")
  | .ins c _ => some (.own c)
  | .loc i => match S[i]? with
    | some (.lst _) => some (.ty "list")
    | some (.dct _) => some (.ty "dict")
    | some (.ins c _) => some (.own c)
    | _ => none
  | _ => none
def IsOk (w : Wd) (cs : List Nat) : Prop := ∀ c ∈ cs, IsC w.K (w.cm c)
theorem iso_nil {w : Wd} : IsOk w [] := fun _ h => by cases h
theorem iso_cons {w : Wd} {c : Nat} {cs : List Nat} (h : IsC w.K (w.cm c)) (r : IsOk w cs) : IsOk w (c :: cs) := fun d q => by
  rcases List.mem_cons.mp q with e | q
  · rw [e]; exact h
  · exact r d q
def okTag (cs : List Nat) : Tg → Bool
  | .ty _ => true
  | .own c => decide (c ∈ cs)
theorem tag_at {w : Wd} {z : Sit} {d : D} {v : V} {t : Tg} {cs : List Nat} (T : IsOk w cs) (g : Good w z) (r : Rep w z d v) (e : tagOf z.S d = some t) (ok : okTag cs t = true) : TyX w.K z.H v (t.val w) := by
  cases d with
  | non => cases e; rw [Rep] at r; rw [r]; exact .base .non
  | bl b => cases e; rw [Rep] at r; rw [r]; exact .base (.bl b)
  | int b => cases e; rw [Rep] at r; rw [r]; exact .base (.int b)
  | str b => cases e; rw [Rep] at r; rw [r]; exact .base (.str b)
  | lst ds => cases e; rw [Rep] at r; obtain ⟨a, vs, rfl, _, h, _⟩ := r; exact .base (.lst h)
  | tup ds =>
    cases e
    rw [Rep] at r
    obtain ⟨a, vs, rfl, h, _⟩ := r
    rcases h with ⟨_, h | ⟨o, h⟩⟩ | ⟨o, _, _, h1, h2, _⟩
    · exact .base (.tup h)
    · exact .fTuple h
    · exact .kTuple h1 h2
  | dct ds => cases e; rw [Rep] at r; obtain ⟨a, vs, rfl, _, h, _⟩ := r; exact .base (.dK h)
  | ins c fs =>
    cases e
    rw [Rep] at r
    obtain ⟨a, dx, vs, rfl, _, h, _⟩ := r
    exact (T c (of_decide_eq_true ok)).ty h
  | loc i =>
    rw [Rep] at r
    obtain ⟨a, rfl, hm⟩ := r
    unfold tagOf at e
    dsimp only at e
    split at e
    · rename_i h
      cases e
      obtain ⟨vs, h1, _⟩ := g.at_ _ _ _ hm h
      exact .base (.lst h1)
    · rename_i h
      cases e
      obtain ⟨vs, h1, _⟩ := g.at_ _ _ _ hm h
      exact .base (.dK h1)
    · rename_i h
      cases e
      obtain ⟨dx, vs, h1, _⟩ := g.at_ _ _ _ hm h
      exact (T _ (of_decide_eq_true ok)).ty h1
    · cases e
  | err _ _ => cases e
  | cls _ => cases e
  | ty _ => cases e
  | scr _ => cases e
/-- which kind is below which -/
def kitL (tb : List (Tg × Tg × Bool)) (t u : Tg) : Option Bool := match tb with
  | [] => none
  | (a, b, r) :: q => if a = t ∧ b = u then some r else kitL q t u
def KitOk (w : Wd) (tb : List (Tg × Tg × Bool)) : Prop := ∀ p ∈ tb, PySem.W.kitOne w.K (p.1.val w) (p.2.1.val w) = some p.2.2
theorem kit_nil {w : Wd} : KitOk w [] := fun _ h => by cases h
theorem kit_cons {w : Wd} {t u : Tg} {b : Bool} {tb : List (Tg × Tg × Bool)} (h : PySem.W.kitOne w.K (t.val w) (u.val w) = some b) (r : KitOk w tb) : KitOk w ((t, u, b) :: tb) := fun d q => by
  rcases List.mem_cons.mp q with e | q
  · rw [e]; exact h
  · exact r d q
theorem kitL_at {w : Wd} {tb : List (Tg × Tg × Bool)} {t u : Tg} {b : Bool} (T : KitOk w tb) (h : kitL tb t u = some b) : PySem.W.kitOne w.K (t.val w) (u.val w) = some b := by
  induction tb with
  | nil => cases h
  | cons p q ih =>
    obtain ⟨x, y, r⟩ := p
    unfold kitL at h
    split at h
    · rename_i e
      cases h
      obtain ⟨rfl, rfl⟩ := e
      exact T _ List.mem_cons_self
    · exact ih (fun d hd => T d (List.mem_cons_of_mem _ hd)) h
/-- kinds of the errors -/
def ErrsOk (w : Wd) (cs : List Nat) : Prop := ∀ c ∈ cs, ExcC w.K (w.cm c)
theorem errs_nil {w : Wd} : ErrsOk w [] := fun _ h => by cases h
theorem errs_cons {w : Wd} {c : Nat} {cs : List Nat} (h : ExcC w.K (w.cm c)) (r : ErrsOk w cs) : ErrsOk w (c :: cs) := fun d q => by
  rcases List.mem_cons.mp q with e | q
  · rw [e]; exact h
  · exact r d q
def clsTag : D → Option Tg
  | .cls c => some (.own c)
  | .ty s => some (.ty s)
  | _ => none
def clsTags : List D → Option (List Tg)
  | [] => some []
  | d :: ds => match clsTag d, clsTags ds with
    | some t, some ts => some (t :: ts)
    | _, _ => none
def anyKit (tb : List (Tg × Tg × Bool)) (t : Tg) : List Tg → Option Bool
  | [] => some false
  | u :: us => match kitL tb t u with
    | some true => some true
    | some false => anyKit tb t us
    | none => none
/-- own: classes whose instances are known, ers: errors -/
structure Kinds (w : Wd) (own ers : List Nat) (tb : List (Tg × Tg × Bool)) : Prop where
  own : IsOk w own
  ers : ErrsOk w ers
  kit : KitOk w tb
/-- the kind of a value, an error too -/
def kindOf (own ers : List Nat) (S : Store) : D → Option Tg
  | .err c _ => if c ∈ ers then some (.own c) else none
  | d => match tagOf S d with
    | some t => if okTag own t = true then some t else none
    | none => none
def dIsi (own ers : List Nat) (tb : List (Tg × Tg × Bool)) (as : List D) : M D := fun S => match as with
  | [d, k] => (match kindOf own ers S d, clsTag k with
    | some t, some u => (match kitL tb t u with | some b => .ok (.bl b) S | none => .bad)
    | _, _ => .bad)
  | _ => .bad
/-- isinstance(d, (k, ..)) -/
def dIsiT (own ers : List Nat) (tb : List (Tg × Tg × Bool)) (d : D) (ks : List D) : M D := fun S => if ks.length ≤ big then (match kindOf own ers S d, clsTags ks with
    | some t, some us => (match anyKit tb t us with | some b => .ok (.bl b) S | none => .bad)
    | _, _ => .bad) else .bad
section
variable {w : Wd} {z : Sit}
theorem clsTag_at {d : D} {v : V} {t : Tg} (r : Rep w z d v) (e : clsTag d = some t) : ClsV v (t.val w) := by
  cases d with
  | cls c => cases e; rw [Rep] at r; rw [r]; exact .own _
  | ty s => cases e; rw [Rep] at r; rw [r]; exact .ty s
  | _ => cases e
theorem clsTags_at : ∀ {ds : List D} {vs : List V} {ts : List Tg}, RepL w z ds vs → clsTags ds = some ts → Paired ClsV vs (ts.map (Tg.val w))
  | [], _, _, r, e => by rw [RepL] at r; cases e; rw [r]; exact .nil
  | d :: ds, _, _, r, e => by
    rw [RepL] at r
    obtain ⟨v, q, rfl, r1, r2⟩ := r
    unfold clsTags at e
    cases h1 : clsTag d with
    | none => rw [h1] at e; cases e
    | some t =>
      cases h2 : clsTags ds with
      | none => rw [h1, h2] at e; cases e
      | some ts =>
        rw [h1, h2] at e
        cases e
        exact .cons (clsTag_at r1 h1) (clsTags_at r2 h2)
theorem anyKit_at {tb : List (Tg × Tg × Bool)} {t : Tg} (T : KitOk w tb) : ∀ {us : List Tg} {b : Bool}, anyKit tb t us = some b → PySem.W.kitAny w.K (t.val w) (us.map (Tg.val w)) = some b
  | [], b, h => by cases h; exact kitAny_nil
  | u :: us, b, h => by
    unfold anyKit at h
    split at h
    · rename_i h1
      cases h
      exact kitAny_cons (r := true) (kitL_at T h1) (fun z => by cases z) fun _ => rfl
    · rename_i h1
      exact kitAny_cons (kitL_at T h1) (fun _ => anyKit_at T h) fun z => by cases z
    · cases h
end
/-! ### calls of what is built in -/
structure Bi8 (X : Cx) (w : Wd) (E : XK) (f : Value) (g : List D → M D) : Prop where
  ex : ∃ r, CallR X f r ∧ DoesN w E r g
section
variable {X : Cx} {w : Wd} {E : XK} {x : Str} {p pos : Pos} {e : Expr} {es : List Expr} {id T : String} {g g' : List D → M D} {fs : Env8 → M (List D)}
theorem pm_b (B : Bi8 X w E (.builtin id) g) (hg : Gl X x) (hm : X.mg x = none) (hv : bootBuiltins x = some (.builtin id)) (A : PMA X w E (e :: es) fs) (hn : x ≠ "__name__" := by decide) (hdb : (x == ("__debug__" : Str)) = false := by decide)
    (he : starEach (e :: es) X.env = (false, eval e X.env) :: starEach es X.env := by rfl) (hpl : (backTo pos (starEach es X.env)).any (·.1) = false := by rfl) : PM X w E (.Call (.Name x p) (e :: es) [] pos) (f1 g fs) := by
  obtain ⟨r, h1, h2⟩ := B.ex
  exact pm_n (pe_callB h1 hg hm hv A hn hdb he hpl) h2
theorem pm_ty (B : Bi8 X w E (.type T) g) (hg : Gl X x) (hm : X.mg x = none) (hv : bootBuiltins x = some (.type T)) (A : PMA X w E (e :: es) fs) (hn : x ≠ "__name__" := by decide) (hdb : (x == ("__debug__" : Str)) = false := by decide)
    (he : starEach (e :: es) X.env = (false, eval e X.env) :: starEach es X.env := by rfl) (hpl : (backTo pos (starEach es X.env)).any (·.1) = false := by rfl) : PM X w E (.Call (.Name x p) (e :: es) [] pos) (f1 g fs) := by
  obtain ⟨r, h1, h2⟩ := B.ex
  exact pm_n (pe_callTy h1 hg hm hv A hn hdb he hpl) h2
/-- one function, or another one where the first has no word -/
def gAlt {α : Type} (g g' : α → M D) : α → M D := fun as S => match g as S with
  | .bad => g' as S
  | r => r
theorem Bi8.or {f : Value} (B : Bi8 X w E f g) (B' : Bi8 X w E f g') : Bi8 X w E f (gAlt g g') := by
  obtain ⟨r, h1, h2⟩ := B.ex
  obtain ⟨r', h1', h2'⟩ := B'.ex
  refine ⟨_, cr_or h1 h1', fun z as xs Q G rp o => ?_⟩
  unfold gAlt at o
  cases h : g as z.S with
  | ok a S => rw [h] at o; exact .inl (h2 z as xs Q G rp (by rw [h]; exact o))
  | er c fs S => rw [h] at o; exact .inl (h2 z as xs Q G rp (by rw [h]; exact o))
  | bad => rw [h] at o; exact .inr (h2' z as xs Q G rp o)
theorem RepL.one {z : Sit} {d : D} {xs : List V} (r : RepL w z [d] xs) : ∃ v, xs = [v] ∧ Rep w z d v := by
  rw [RepL] at r
  obtain ⟨v, q, rfl, r1, r2⟩ := r
  rw [RepL] at r2
  rw [r2]
  exact ⟨v, rfl, r1⟩
theorem RepL.two {z : Sit} {d d' : D} {xs : List V} (r : RepL w z [d, d'] xs) : ∃ v u, xs = [v, u] ∧ Rep w z d v ∧ Rep w z d' u := by
  rw [RepL] at r
  obtain ⟨v, q, rfl, r1, r2⟩ := r
  obtain ⟨u, rfl, r3⟩ := RepL.one r2
  exact ⟨v, u, rfl, r1, r3⟩
theorem call_isVK (h : X.K = w.K) : CallR X (.builtin "isinstance") (rIsV w.K) := by rw [← h]; exact call_isV
theorem call_isVTK (h : X.K = w.K) : CallR X (.builtin "isinstance") (rIsVT w.K) := by rw [← h]; exact call_isVT
theorem call_isiTK (h : X.K = w.K) : CallR X (.builtin "isinstance") (rIsiT w.K) := by rw [← h]; exact call_isiT
theorem kind_at {own ers : List Nat} {tb : List (Tg × Tg × Bool)} {z : Sit} {d : D} {v : V} {t : Tg} (T : Kinds w own ers tb) (g : Good w z) (r : Rep w z d v) (e : kindOf own ers z.S d = some t) : TyX w.K z.H v (t.val w) ∨ ∃ a c, v = .ref a ∧ t = .own c ∧ ErrO z.H a (w.cm c) ∧ ExcC w.K (w.cm c) := by
  unfold kindOf at e
  split at e
  · split at e
    · rename_i hc
      cases e
      rw [Rep] at r
      obtain ⟨a, dx, us, rfl, _, h, _, h2, _⟩ := r
      exact .inr ⟨a, _, rfl, rfl, ⟨some dx, h, fun dx' e' => by cases e'; exact ⟨us, h2⟩⟩, T.ers _ hc⟩
    · cases e
  · split at e
    · split at e
      · rename_i h1 h2
        cases e
        exact .inl (tag_at T.own g r h1 h2)
      · cases e
    · cases e
theorem b_isi {own ers : List Nat} {tb : List (Tg × Tg × Bool)} (hK : X.K = w.K) (T : Kinds w own ers tb) : Bi8 X w E (.builtin "isinstance") (dIsi own ers tb) := by
  refine ⟨_, cr_or (call_isiK' hK) (call_isVK hK), fun z as xs Q g rp o => ?_⟩
  unfold dIsi at o
  split at o
  · obtain ⟨v, u, rfl, r1, r2⟩ := RepL.two rp
    split at o
    · rename_i h1 h2
      split at o
      · rename_i h3
        have k := kitL_at T.kit h3
        rcases kind_at T g r1 h1 with ty | ⟨a, c, rfl, rfl, eo, ex⟩
        · exact .inl ⟨v, u, _, _, _, rfl, clsTag_at r2 h2, ty, k, o.okv g rep_bl⟩
        · exact .inr ⟨a, _, u, _, _, rfl, eo, ex, clsTag_at r2 h2, k, o.okv g rep_bl⟩
      · exact o.elim
    · exact o.elim
  · exact o.elim
theorem pm_isiT {own ers : List Nat} {tb : List (Tg × Tg × Bool)} {a : Expr} {ks : List Expr} {fa : Env8 → M D} {q : Pos} {kk} (hK : X.K = w.K) (T : Kinds w own ers tb) (hg : Gl X "isinstance") (hm : X.mg "isinstance" = none) (hv : bootBuiltins "isinstance" = some (.builtin "isinstance")) (A : PM X w E a fa) (B : PMA X w E ks fs)
    (he : starEach [a, .Tuple ks kk q] X.env = (false, eval a X.env) :: starEach [.Tuple ks kk q] X.env := by rfl) (he2 : starEach [.Tuple ks kk q] X.env = (false, eval (.Tuple ks kk q) X.env) :: starEach [] X.env := by rfl) (hpl : (backTo pos (starEach [.Tuple ks kk q] X.env)).any (·.1) = false := by rfl) :
    PM X w E (.Call (.Name "isinstance" p) [a, .Tuple ks kk q] [] pos) (fun env => (fa env).bnd fun d => (fs env).bnd fun ks => dIsiT own ers tb d ks) := by
  refine (pe_callB (cr_or (call_isiTK hK) (call_isVTK hK)) hg hm hv (pa_cons A (pa_cons (pe_tup B) pa_nil he2) he) (by decide) (by decide) he hpl).wk fun σ H Q ⟨env, z, eH, G, re, o⟩ => ?_
  refine ⟨env, z, eH, G, re, (Out.bnd o).imp fun d z1 x1 g1 o1 v rv => ⟨env, z1, rfl, g1, re.mono x1.vx, (Out.bnd o1).imp fun ds z2 x2 g2 o2 vs rvs => ?_⟩⟩
  unfold dIsiT at o2
  split at o2
  · rename_i hb
    refine ⟨big_le (by rw [← rvs.length]; exact hb), fun p hp => ?_⟩
    split at o2
    · rename_i h1 h2
      split at o2
      · rename_i h3
        have s := Same.new (o := .tup vs) hp
        have x3 := Ex.more s
        have g3 := g2.more s
        have k := anyKit_at T.kit h3
        have fin : Q (.bl _) _ := o2 (z2.on (upd z2.H p (.tup vs))) rfl x3 g3 _ rep_bl
        have pc := clsTags_at rvs h2
        rcases kind_at T g3 ((rv.mono x2.vx).mono x3.vx) h1 with ty | ⟨a, c, rfl, rfl, eo, ex⟩
        · exact .inl ⟨v, p, vs, _, _, _, rfl, upd_same, pc, ty, k, fin⟩
        · exact .inr ⟨a, _, p, vs, _, _, rfl, eo, ex, upd_same, pc, k, fin⟩
      · exact o2.elim
    · exact o2.elim
  · exact o2.elim
/-! the usual ones -/
def dLen (as : List D) : M D := fun S => match as with
  | [.str s] => if s.length ≤ big then .ok (.int s.length) S else .bad
  | [.tup ds] => .ok (.int ds.length) S
  | [d] => match asL S d with
    | some ds => .ok (.int ds.length) S
    | none => match asK S d with
      | some kvs => .ok (.int kvs.length) S
      | none => .bad
  | _ => .bad
theorem RepK.length {z : Sit} : ∀ {ds : List (Key × D)} {vs : List (Key × V)}, RepK w z ds vs → ds.length = vs.length
  | [], _, h => by rw [RepK] at h; rw [h]; rfl
  | (k, d) :: ds, vs, h => by
    rw [RepK] at h
    obtain ⟨v, r, rfl, _, h2⟩ := h
    simp [RepK.length h2]
theorem b_len (hK : X.K = w.K) : Bi8 X w E (.builtin "len") dLen := by
  refine ⟨_, cr_or (call_lenK hK) (cr_or call_len_str call_lenD), fun z as xs Q g rp o => ?_⟩
  unfold dLen at o
  split at o
  · obtain ⟨v, rfl, r⟩ := RepL.one rp
    split at o
    · rename_i h
      rw [Rep] at r
      rw [r]
      exact .inr (.inl ⟨_, rfl, big_le h, o.okv g rep_int⟩)
    · exact o.elim
  · obtain ⟨v, rfl, r⟩ := RepL.one rp
    obtain ⟨a, vs, rfl, h, r⟩ := asT_at r rfl
    rw [r.length] at o
    exact .inl ⟨a, vs, rfl, .inr h, o.okv g rep_int⟩
  · obtain ⟨v, rfl, r⟩ := RepL.one rp
    split at o
    · rename_i h
      obtain ⟨a, vs, rfl, h, r⟩ := asL_at g r h
      rw [r.length] at o
      exact .inl ⟨a, vs, rfl, .inl (.inl (.inl h)), o.okv g rep_int⟩
    · split at o
      · rename_i h
        obtain ⟨a, vs, rfl, h, r⟩ := asK_at g r h
        rw [r.length] at o
        exact .inr (.inr ⟨a, vs, rfl, h, o.okv g rep_int⟩)
      · exact o.elim
  · exact o.elim
def dAbs : List D → M D
  | [.int i] => M.ret (.int (if i < 0 then -i else i))
  | _ => M.bad
theorem b_abs : Bi8 X w E (.builtin "abs") dAbs := by
  refine ⟨_, call_abs, fun z as xs Q g rp o => ?_⟩
  unfold dAbs at o
  split at o
  · obtain ⟨v, rfl, r⟩ := RepL.one rp
    rw [Rep] at r
    rw [r]
    exact ⟨_, rfl, o.v g rep_int⟩
  · exact o.elim
def dInt : List D → M D
  | [.int i] => M.ret (.int i)
  | [.bl b] => M.ret (.int (if b then 1 else 0))
  | _ => M.bad
theorem b_int : Bi8 X w E (.type "int") dInt := by
  refine ⟨_, call_int1, fun z as xs Q g rp o => ?_⟩
  unfold dInt at o
  split at o
  · obtain ⟨v, rfl, r⟩ := RepL.one rp
    rw [Rep] at r
    rw [r]
    exact .inl ⟨_, rfl, o.v g rep_int⟩
  · obtain ⟨v, rfl, r⟩ := RepL.one rp
    rw [Rep] at r
    rw [r]
    exact .inr ⟨_, rfl, o.v g rep_int⟩
  · exact o.elim
def dStr : List D → M D
  | [.int i] => if i.natAbs.log2 < 1920 then M.ret (.str (toString i)) else M.bad
  | _ => M.bad
theorem b_str : Bi8 X w E (.type "str") dStr := by
  refine ⟨_, call_str_int, fun z as xs Q g rp o => ?_⟩
  unfold dStr at o
  split at o
  · obtain ⟨v, rfl, r⟩ := RepL.one rp
    rw [Rep] at r
    rw [r]
    split at o
    · rename_i h
      exact ⟨_, rfl, h, o.v g rep_str⟩
    · exact o.elim
  · exact o.elim
def dMax2 : List D → M D
  | [.int i, .int j] => M.ret (.int (if j > i then j else i))
  | _ => M.bad
def dMin2 : List D → M D
  | [.int i, .int j] => M.ret (.int (if j < i then j else i))
  | _ => M.bad
theorem b_max2 (hc : X.calm = true) : Bi8 X w E (.builtin "max") dMax2 := by
  refine ⟨_, call_max2 hc, fun z as xs Q g rp o => ?_⟩
  unfold dMax2 at o
  split at o
  · obtain ⟨v, u, rfl, r, r'⟩ := RepL.two rp
    rw [Rep] at r r'
    rw [r, r']
    exact ⟨_, _, rfl, o.v g rep_int⟩
  · exact o.elim
theorem b_min2 (hc : X.calm = true) : Bi8 X w E (.builtin "min") dMin2 := by
  refine ⟨_, call_min2 hc, fun z as xs Q g rp o => ?_⟩
  unfold dMin2 at o
  split at o
  · obtain ⟨v, u, rfl, r, r'⟩ := RepL.two rp
    rw [Rep] at r r'
    rw [r, r']
    exact ⟨_, _, rfl, o.v g rep_int⟩
  · exact o.elim
/-- list(..) -/
def dList (as : List D) : M D := fun S => match as with
  | [.tup ds] => .ok (.lst ds) S
  | [.scr ns] => .ok (.lst (ns.map .int)) S
  | [d] => match asL S d with
    | some ds => .ok (.lst ds) S
    | none => .bad
  | _ => .bad
/-- list(..) that may be written -/
def dListM (as : List D) : M D := fun S => match dList as S with
  | .ok (.lst ds) S' => .ok (.loc S'.length) (S' ++ [.lst ds])
  | _ => .bad
theorem call_list_ofK (h : X.K = w.K) : CallR X (.type "list") (fun xs H Q => ∃ p ys, xs = [.ref p] ∧ (SqL w.K H p ys ∨ SqT w.K H p ys) ∧ ∀ l, H l = none → Q (.ref l) (upd H l (.lst ys))) := by rw [← h]; exact call_list_of
theorem list_src {z : Sit} {as : List D} {xs : List V} {ds : List D} {S : Store} (g : Good w z) (rp : RepL w z as xs) (h : dList as z.S = .ok (.lst ds) S) : S = z.S ∧ ∃ p ys, xs = [.ref p] ∧ (SqL w.K z.H p ys ∨ SqT w.K z.H p ys) ∧ RepL w z ds ys := by
  unfold dList at h
  split at h
  · cases h
    obtain ⟨v, rfl, r⟩ := RepL.one rp
    obtain ⟨a, vs, rfl, h, r⟩ := asT_at r rfl
    exact ⟨rfl, a, vs, rfl, .inr h, r⟩
  · cases h
    obtain ⟨v, rfl, r⟩ := RepL.one rp
    rw [Rep] at r
    obtain ⟨a, rfl, h⟩ := r
    refine ⟨rfl, a, _, rfl, .inl ?_, RepL.mkInts _⟩
    rcases h with ⟨_, h⟩ | h
    · exact .inl h
    · exact .inr h
  · obtain ⟨v, rfl, r⟩ := RepL.one rp
    split at h
    · rename_i hl
      cases h
      obtain ⟨a, vs, rfl, h, r⟩ := asL_at g r hl
      exact ⟨rfl, a, vs, rfl, .inl (.inl (.inl h)), r⟩
    · cases h
  · cases h
theorem b_list (hK : X.K = w.K) : Bi8 X w E (.type "list") dList := by
  refine ⟨_, call_list_ofK hK, fun z as xs Q g rp o => ?_⟩
  have : ∃ ds, dList as z.S = .ok (.lst ds) z.S := by
    unfold dList at o ⊢
    split at o
    · exact ⟨_, rfl⟩
    · exact ⟨_, rfl⟩
    · split at o
      · rename_i h; exact ⟨_, rfl⟩
      · exact o.elim
    · exact o.elim
  obtain ⟨ds, e⟩ := this
  rw [e] at o
  obtain ⟨_, p, ys, rfl, h1, h2⟩ := list_src g rp e
  exact ⟨p, ys, rfl, h1, new_lst g h2 o⟩
theorem b_listM (hK : X.K = w.K) : Bi8 X w E (.type "list") dListM := by
  refine ⟨_, call_list_ofK hK, fun z as xs Q g rp o => ?_⟩
  unfold dListM at o
  split at o
  · rename_i ds S' e
    obtain ⟨rfl, p, ys, rfl, h1, h2⟩ := list_src g rp e
    exact ⟨p, ys, rfl, h1, new_loc g h2 o⟩
  · exact o.elim
def dTuple (as : List D) : M D := fun S => match as with
  | [.tup ds] => .ok (.tup ds) S
  | [d] => match asL S d with
    | some ds => .ok (.tup ds) S
    | none => .bad
  | _ => .bad
theorem call_tuple_ofK (h : X.K = w.K) : CallR X (.type "tuple") (fun xs H Q => ∃ p ys, xs = [.ref p] ∧ ((SqL w.K H p ys ∧ ∀ l, H l = none → Q (.ref l) (upd H l (.tup ys))) ∨ (SqT w.K H p ys ∧ Q (.ref p) H))) := by rw [← h]; exact call_tuple_of
theorem b_tuple (hK : X.K = w.K) : Bi8 X w E (.type "tuple") dTuple := by
  refine ⟨_, call_tuple_ofK hK, fun z as xs Q g rp o => ?_⟩
  unfold dTuple at o
  split at o
  · obtain ⟨v, rfl, r⟩ := RepL.one rp
    have r0 := r
    obtain ⟨a, vs, rfl, h, r⟩ := asT_at r rfl
    exact ⟨a, vs, rfl, .inr ⟨h, o.okv g r0⟩⟩
  · obtain ⟨v, rfl, r⟩ := RepL.one rp
    split at o
    · rename_i hl
      obtain ⟨a, vs, rfl, h, r⟩ := asL_at g r hl
      exact ⟨a, vs, rfl, .inl ⟨.inl (.inl h), new_tup g r o⟩⟩
    · exact o.elim
  · exact o.elim
/-! of lists of numbers, of truths -/
def intsOf : List D → Option (List Int)
  | [] => some []
  | .int i :: ds => (intsOf ds).map (i :: ·)
  | _ :: _ => none
def blsOf : List D → Option (List Bool)
  | [] => some []
  | .bl i :: ds => (blsOf ds).map (i :: ·)
  | _ :: _ => none
theorem intsOf_at : ∀ {ds : List D} {ns : List Int}, intsOf ds = some ns → ds = ns.map D.int
  | [], _, h => by cases h; rfl
  | .int i :: ds, ns, h => by
    unfold intsOf at h
    rw [Option.map_eq_some_iff] at h
    obtain ⟨ms, h, rfl⟩ := h
    rw [intsOf_at h]; rfl
  | .non :: _, _, h | .bl _ :: _, _, h | .str _ :: _, _, h | .lst _ :: _, _, h | .tup _ :: _, _, h | .dct _ :: _, _, h | .ins _ _ :: _, _, h | .err _ _ :: _, _, h | .cls _ :: _, _, h | .ty _ :: _, _, h | .loc _ :: _, _, h | .scr _ :: _, _, h => by cases h
theorem intsOf_map (ns : List Int) : intsOf (ns.map D.int) = some ns := by
  induction ns with
  | nil => rfl
  | cons n r ih => rw [List.map_cons, intsOf, ih]; rfl
theorem blsOf_at : ∀ {ds : List D} {ns : List Bool}, blsOf ds = some ns → ds = ns.map D.bl
  | [], _, h => by cases h; rfl
  | .bl i :: ds, ns, h => by
    unfold blsOf at h
    rw [Option.map_eq_some_iff] at h
    obtain ⟨ms, h, rfl⟩ := h
    rw [blsOf_at h]; rfl
  | .non :: _, _, h | .int _ :: _, _, h | .str _ :: _, _, h | .lst _ :: _, _, h | .tup _ :: _, _, h | .dct _ :: _, _, h | .ins _ _ :: _, _, h | .err _ _ :: _, _, h | .cls _ :: _, _, h | .ty _ :: _, _, h | .loc _ :: _, _, h | .scr _ :: _, _, h => by cases h
theorem blsOf_map (ns : List Bool) : blsOf (ns.map D.bl) = some ns := by
  induction ns with
  | nil => rfl
  | cons n r ih => rw [List.map_cons, blsOf, ih]; rfl
def dSum (as : List D) : M D := fun S => match as with
  | [d] => match (asL S d).bind intsOf with
    | some ns => .ok (.int ns.sum) S
    | none => .bad
  | _ => .bad
def dAll (as : List D) : M D := fun S => match as with
  | [d] => match (asL S d).bind blsOf with
    | some bs => .ok (.bl (bs.all _root_.id)) S
    | none => .bad
  | _ => .bad
def dAny (as : List D) : M D := fun S => match as with
  | [d] => match (asL S d).bind blsOf with
    | some bs => .ok (.bl (bs.any _root_.id)) S
    | none => .bad
  | _ => .bad
theorem ints_at {z : Sit} {d : D} {v : V} {ns : List Int} (g : Good w z) (r : Rep w z d v) (h : (asL z.S d).bind intsOf = some ns) : ∃ a, v = .ref a ∧ SqL w.K z.H a (ns.map V.int) := by
  cases e : asL z.S d with
  | none => rw [e] at h; cases h
  | some ds =>
    rw [e] at h
    obtain ⟨a, vs, rfl, h1, r1⟩ := asL_at g r e
    have e2 := intsOf_at h
    subst e2
    rw [r1.ints] at h1
    exact ⟨a, rfl, .inl (.inl h1)⟩
theorem bls_at {z : Sit} {d : D} {v : V} {ns : List Bool} (g : Good w z) (r : Rep w z d v) (h : (asL z.S d).bind blsOf = some ns) : ∃ a, v = .ref a ∧ SqL w.K z.H a (ns.map V.bl) := by
  cases e : asL z.S d with
  | none => rw [e] at h; cases h
  | some ds =>
    rw [e] at h
    obtain ⟨a, vs, rfl, h1, r1⟩ := asL_at g r e
    have e2 := blsOf_at h
    subst e2
    rw [r1.bls] at h1
    exact ⟨a, rfl, .inl (.inl h1)⟩
theorem b_sum (hK : X.K = w.K) (hc : X.calm = true) : Bi8 X w E (.builtin "sum") dSum := by
  have q := cr_sum hc
  rw [hK] at q
  refine ⟨_, q, fun z as xs Q g rp o => ?_⟩
  unfold dSum at o
  split at o
  · obtain ⟨v, rfl, r⟩ := RepL.one rp
    split at o
    · rename_i h
      obtain ⟨a, rfl, h1⟩ := ints_at g r h
      exact ⟨a, _, rfl, h1, o.okv g rep_int⟩
    · exact o.elim
  · exact o.elim
theorem b_all (hK : X.K = w.K) (hc : X.calm = true) : Bi8 X w E (.builtin "all") dAll := by
  have q := cr_all hc
  rw [hK] at q
  refine ⟨_, q, fun z as xs Q g rp o => ?_⟩
  unfold dAll at o
  split at o
  · obtain ⟨v, rfl, r⟩ := RepL.one rp
    split at o
    · rename_i h
      obtain ⟨a, rfl, h1⟩ := bls_at g r h
      exact ⟨a, _, rfl, h1, o.okv g rep_bl⟩
    · exact o.elim
  · exact o.elim
theorem b_any (hK : X.K = w.K) (hc : X.calm = true) : Bi8 X w E (.builtin "any") dAny := by
  have q := cr_any hc
  rw [hK] at q
  refine ⟨_, q, fun z as xs Q g rp o => ?_⟩
  unfold dAny at o
  split at o
  · obtain ⟨v, rfl, r⟩ := RepL.one rp
    split at o
    · rename_i h
      obtain ⟨a, rfl, h1⟩ := bls_at g r h
      exact ⟨a, _, rfl, h1, o.okv g rep_bl⟩
    · exact o.elim
  · exact o.elim
/-- repr -/
def dRepr (as : List D) : M D := fun S => match as with
  | [d] => match pyOf S d with
    | some p => if p.showable = true ∧ p.hasDict = false ∧ p.shown.length ≤ big ∧ p.depth ≤ 40 then .ok (.str p.shown) S else .bad
    | none => .bad
  | _ => .bad
theorem b_repr (hK : X.K = w.K) {k : Nat} (hgd : X.A.guards = some []) (hr : Room k X.A) : Bi8 X w E (.builtin "repr") dRepr := by
  have q := call_reprD hgd hr
  rw [hK] at q
  refine ⟨_, q, fun z as xs Q g rp o => ?_⟩
  unfold dRepr at o
  split at o
  · obtain ⟨v, rfl, r⟩ := RepL.one rp
    split at o
    · rename_i h
      split at o
      · rename_i h2
        exact ⟨v, _, big, rfl, pyOf_dp g r h, ⟨h2.1, h2.2.1, h2.2.2.1, h2.2.2.2⟩, big_le (Nat.le_refl _), o.okv g rep_str⟩
      · exact o.elim
    · exact o.elim
  · exact o.elim
end
end Ol

namespace Ol
open PySem PySem.Spec PyProof.Rows L2
/-! ### what is never reached -/
section
variable {X : Cx} {w : Wd} {E : XK} {e : Expr} {st : Stmt} {tg : Expr}
theorem pm_bad : PM X w E e (fun _ => M.bad) := ⟨fun _ _ _ _ _ _ ⟨_, _, _, _, _, o⟩ => o.elim⟩
theorem pmt_bad : PMT X w E e (fun _ => M.bad) := ⟨fun _ _ _ _ _ _ ⟨_, _, _, _, _, o⟩ => o.elim⟩
theorem pms_bad : PMS X w E st (fun _ => M.bad) := ⟨fun _ _ _ _ _ _ ⟨_, _, _, _, _, o⟩ => o.elim⟩
theorem pmi_bad : PMI X w E tg e (fun _ => M.bad) := ⟨fun _ _ _ _ _ _ ⟨_, _, _, _, _, o⟩ => o.elim⟩
end
/-! ### own comparisons -/
def gAlt2 (g g' : D → D → M D) : D → D → M D := fun a b S => match g a b S with
  | .bad => g' a b S
  | r => r
section
variable {X : Cx} {w : Wd} {E : XK}
theorem Does2.or {r r' : R2} {g g' : D → D → M D} (h : Does2 w E r g) (h' : Does2 w E r' g') : Does2 w E (alt2 r r') (gAlt2 g g') := fun z a b x y Q G ra rb o => by
  unfold gAlt2 at o
  cases e : g a b z.S with
  | ok a S => rw [e] at o; exact .inl (h z _ _ _ _ Q G ra rb (by rw [e]; exact o))
  | er c fs S => rw [e] at o; exact .inl (h z _ _ _ _ Q G ra rb (by rw [e]; exact o))
  | bad => rw [e] at o; exact .inr (h' z _ _ _ _ Q G ra rb o)
theorem Cmp8.or {op : CmpOp} {g g' : D → D → M D} (C : Cmp8 X w E op g) (C' : Cmp8 X w E op g') : Cmp8 X w E op (gAlt2 g g') := by
  obtain ⟨r, h1, h2⟩ := C.ex
  obtain ⟨r', h1', h2'⟩ := C'.ex
  exact ⟨_, opr_or h1 h1', h2.or h2'⟩
/-- what stands at the right of an own comparison -/
def NfOk (w : Wd) (c : Nat) (ts : List Tg) : Prop := ∀ t ∈ ts, PySem.W.notFirst w.K (w.cm c) (t.val w) = true
theorem nf_nil {c : Nat} : NfOk w c [] := fun _ h => by cases h
theorem nf_self {c : Nat} {ts : List Tg} (r : NfOk w c ts) : NfOk w c (.own c :: ts) := fun d q => by
  rcases List.mem_cons.mp q with e | q
  · rw [e]; exact notFirst_self
  · exact r d q
theorem nf_cons {c : Nat} {t : Tg} {ts : List Tg} (h : PySem.W.subIn w.K (t.val w) (.ref (w.cm c)) = some false) (r : NfOk w c ts) : NfOk w c (t :: ts) := fun d q => by
  rcases List.mem_cons.mp q with e | q
  · rw [e]; exact nf_of h
  · exact r d q
def dOwn (c : Nat) (own : List Nat) (ts : List Tg) (G : List D → M D) (a b : D) : M D := fun S => match asI S a, tagOf S b with
  | some (c', _), some t => if c' = c ∧ t ∈ ts ∧ okTag own t = true then G [a, b] S else .bad
  | _, _ => .bad
def dOwnB (c : Nat) (own : List Nat) (ts : List Tg) (G : List D → M D) (neg : Bool) (a b : D) : M D := fun S => match asI S a, tagOf S b with
  | some (c', _), some t => if c' = c ∧ t ∈ ts ∧ okTag own t = true then ((G [a, b]).bnd fun r => match r with | .bl k => M.ret (.bl (neg ^^ k)) | _ => M.bad) S else .bad
  | _, _ => .bad
variable {k c : Nat} {f : Addr} {fd : FuncData} {ps : List Str} {G : List D → M D} {own : List Nat} {ts : List Tg}
theorem c_own {op : CmpOp} (hK : X.K = w.K) (hop : ∀ a b, compareOp op a b = richCompare op a b) (R : CmpOf X.K (w.cm c) op f) (F : FnOk X.prog X.w X.K X.mg X.base (L2.CX X.prog X.w) k f fd ps (spM w 2 G)) (ar : Ar 2 G) (hr : Room k X.A) (hb : L2.Binds X.K fd ps []) (hx : Passes (L2.CX X.prog X.w) X E) (T : IsOk w own) (N : NfOk w c ts) : Cmp8 X w E op (dOwn c own ts G) := by
  have q := op_cmpO hop R F hr hb hx
  rw [hK] at q
  refine ⟨_, q, fun z a b x y Q g ra rb o => ?_⟩
  unfold dOwn at o
  split at o
  · rename_i h1 h2
    split at o
    · rename_i h
      obtain ⟨rfl, h3, h4⟩ := h
      obtain ⟨p, dx, us, rfl, hH, rf⟩ := asI_at g ra h1
      exact ⟨p, dx, us, _, rfl, hH, tag_at T g rb h2 h4, N _ h3, sp_of ar g (RepL.cons ra (RepL.cons rb RepL.nil)) o⟩
    · exact o.elim
  · exact o.elim
theorem c_ownNe (hK : X.K = w.K) (R : NeOf X.K (w.cm c) f) (F : FnOk X.prog X.w X.K X.mg X.base (L2.CX X.prog X.w) k f fd ps (spM w 2 G)) (ar : Ar 2 G) (hr : Room (k + 1) X.A) (hb : L2.Binds X.K fd ps []) (hx : Passes (L2.CX X.prog X.w) X E) (T : IsOk w own) (N : NfOk w c ts) : Cmp8 X w E .NotEq (dOwnB c own ts G true) := by
  have q := op_neO R F hr hb hx
  rw [hK] at q
  refine ⟨_, q, fun z a b x y Q g ra rb o => ?_⟩
  unfold dOwnB at o
  split at o
  · rename_i h1 h2
    split at o
    · rename_i h
      obtain ⟨rfl, h3, h4⟩ := h
      obtain ⟨p, dx, us, rfl, hH, rf⟩ := asI_at g ra h1
      refine ⟨p, dx, us, _, rfl, hH, tag_at T g rb h2 h4, N _ h3, sp_of ar g (RepL.cons ra (RepL.cons rb RepL.nil)) ((Out.bnd o).imp fun d z1 x1 g1 o1 v rv => ?_)⟩
      split at o1
      · rw [Rep] at rv
        exact ⟨_, rv, by simpa using o1.v g1 rep_bl⟩
      · exact o1.elim
    · exact o.elim
  · exact o.elim
/-- x in an own thing -/
def dInO (c : Nat) (G : List D → M D) (neg : Bool) (x o : D) : M D := fun S => match asI S o with
  | some (c', _) => if c' = c then ((G [o, x]).bnd fun r => match r with | .bl k => M.ret (.bl (neg ^^ k)) | _ => M.bad) S else .bad
  | none => .bad
theorem c_inO (R : Meth X.K (w.cm c) "__contains__" f) (F : FnOk X.prog X.w X.K X.mg X.base (L2.CX X.prog X.w) k f fd ps (spM w 2 G)) (ar : Ar 2 G) (hr : Room k X.A) (hb : L2.Binds X.K fd ps []) (hx : Passes (L2.CX X.prog X.w) X E) : Cmp8 X w E .In (dInO c G false) := by
  refine ⟨_, op_inO R F hr hb hx, fun z a b x y Q g ra rb o => ?_⟩
  unfold dInO at o
  split at o
  · rename_i h1
    split at o
    · rename_i h
      subst h
      obtain ⟨p, dx, us, rfl, hH, rf⟩ := asI_at g rb h1
      refine ⟨p, dx, us, rfl, hH, sp_of ar g (RepL.cons rb (RepL.cons ra RepL.nil)) ((Out.bnd o).imp fun d z1 x1 g1 o1 v rv => ?_)⟩
      split at o1
      · rw [Rep] at rv
        exact ⟨_, rv, by simpa using o1.v g1 rep_bl⟩
      · exact o1.elim
    · exact o.elim
  · exact o.elim
theorem c_notInO (R : Meth X.K (w.cm c) "__contains__" f) (F : FnOk X.prog X.w X.K X.mg X.base (L2.CX X.prog X.w) k f fd ps (spM w 2 G)) (ar : Ar 2 G) (hr : Room k X.A) (hb : L2.Binds X.K fd ps []) (hx : Passes (L2.CX X.prog X.w) X E) : Cmp8 X w E .NotIn (dInO c G true) := by
  refine ⟨_, op_notInO R F hr hb hx, fun z a b x y Q g ra rb o => ?_⟩
  unfold dInO at o
  split at o
  · rename_i h1
    split at o
    · rename_i h
      subst h
      obtain ⟨p, dx, us, rfl, hH, rf⟩ := asI_at g rb h1
      refine ⟨p, dx, us, rfl, hH, sp_of ar g (RepL.cons rb (RepL.cons ra RepL.nil)) ((Out.bnd o).imp fun d z1 x1 g1 o1 v rv => ?_)⟩
      split at o1
      · rw [Rep] at rv
        exact ⟨_, rv, by simpa using o1.v g1 rep_bl⟩
      · exact o1.elim
    · exact o.elim
  · exact o.elim
/-! ### own operators -/
structure Op8 (X : Cx) (w : Wd) (E : XK) (op : Operator) (g : D → D → M D) : Prop where
  ex : ∃ r, OpR X (binaryOp op) r ∧ Does2 w E r g
theorem Op8.or {op : Operator} {g g' : D → D → M D} (C : Op8 X w E op g) (C' : Op8 X w E op g') : Op8 X w E op (gAlt2 g g') := by
  obtain ⟨r, h1, h2⟩ := C.ex
  obtain ⟨r', h1', h2'⟩ := C'.ex
  exact ⟨_, opr_or h1 h1', h2.or h2'⟩
theorem pm_op8 {a b : Expr} {fa fb : Env8 → M D} {pos : Pos} {op : Operator} {g : D → D → M D} (C : Op8 X w E op g) (A : PM X w E a fa) (B : PM X w E b fb) : PM X w E (.BinOp a op b pos) (f2 g fa fb) := by
  obtain ⟨r, h1, h2⟩ := C.ex
  exact pm_2 (pe_op h1 A B) h2
/-- an own thing at the left, a thing of a kind at the right -/
def dOwnL (c : Nat) (T : String) (G : List D → M D) (a b : D) : M D := fun S => match asI S a, tagOf S b with
  | some (c', _), some t => if c' = c ∧ t = .ty T then G [a, b] S else .bad
  | _, _ => .bad
theorem o_ownL {op : Operator} {T : String} (hK : X.K = w.K) (R : OwnOf X.K (w.cm c) op T f) (F : FnOk X.prog X.w X.K X.mg X.base (L2.CX X.prog X.w) k f fd ps (spM w 2 G)) (ar : Ar 2 G) (hr : Room k X.A) (hb : L2.Binds X.K fd ps []) (hx : Passes (L2.CX X.prog X.w) X E) : Op8 X w E op (dOwnL c T G) := by
  have q := op_ownL R F hr hb hx
  rw [hK] at q
  refine ⟨_, q, fun z a b x y Q g ra rb o => ?_⟩
  unfold dOwnL at o
  split at o
  · rename_i h1 h2
    split at o
    · rename_i h
      obtain ⟨rfl, rfl⟩ := h
      obtain ⟨p, dx, us, rfl, hH, rf⟩ := asI_at g ra h1
      exact ⟨p, dx, us, rfl, hH, tag_at (cs := []) iso_nil g rb h2 rfl, sp_of ar g (RepL.cons ra (RepL.cons rb RepL.nil)) o⟩
    · exact o.elim
  · exact o.elim
/-- a number at the left, an own thing at the right -/
def dRefl (c : Nat) (G : List D → M D) (a b : D) : M D := fun S => match a, asI S b with
  | .int i, some (c', _) => if c' = c then G [b, .int i] S else .bad
  | _, _ => .bad
theorem o_refl {op : Operator} {id : String} (R : ReflOf X.K (w.cm c) op f) (fl : fillsNumberSlot (.type "int") op.info.2 = pure true) (sl : Slot "int" (PySem.dunder op.info.2) id) (lt : Lets id) (F : FnOk X.prog X.w X.K X.mg X.base (L2.CX X.prog X.w) k f fd ps (spM w 2 G)) (ar : Ar 2 G) (hr : Room k X.A) (hb : L2.Binds X.K fd ps []) (hx : Passes (L2.CX X.prog X.w) X E) : Op8 X w E op (dRefl c G) := by
  refine ⟨_, op_refl R fl sl lt F hr hb hx, fun z a b x y Q g ra rb o => ?_⟩
  unfold dRefl at o
  split at o
  · rename_i h1
    split at o
    · rename_i h
      subst h
      obtain ⟨p, dx, us, rfl, hH, rf⟩ := asI_at g rb h1
      have ra0 := ra
      rw [Rep] at ra
      exact ⟨_, p, dx, us, ra, rfl, hH, sp_of ar g (RepL.cons rb (RepL.cons rep_int RepL.nil)) o⟩
    · exact o.elim
  · exact o.elim
theorem o_add (hK : X.K = w.K) : Op8 X w E .Add dAdd := by
  refine ⟨_, opr_or op_add (opr_or op_add_str (opr_or op_cat op_catT)), fun z a b x y Q g ra rb o => ?_⟩
  unfold dAdd at o
  split at o
  · rw [Rep] at ra rb
    exact .inl ⟨_, _, ra, rb, o.v g rep_int⟩
  · rw [Rep] at ra rb
    split at o
    · rename_i h
      exact .inr (.inl ⟨_, _, ra, rb, big_le h, o.v g rep_str⟩)
    · exact o.elim
  · rw [Rep] at ra rb
    obtain ⟨p, vs, e1, _, h1, r1⟩ := ra
    obtain ⟨q, us, e2, _, h2, r2⟩ := rb
    split at o
    · rename_i h
      rw [r1.length, r2.length] at h
      exact .inr (.inr (.inl ⟨p, q, vs, us, e1, e2, h1, h2, big_le h, new_lst g (r1.append r2) o⟩))
    · exact o.elim
  · obtain ⟨p, vs, e1, h1, r1⟩ := asT_at ra rfl
    obtain ⟨q, us, e2, h2, r2⟩ := asT_at rb rfl
    split at o
    · rename_i h
      obtain ⟨n1, n2, h⟩ := h
      rw [r1.length, r2.length] at h
      have m1 : vs ≠ [] := fun e => n1 (List.length_eq_zero_iff.mp (by rw [r1.length, e]; rfl))
      have m2 : us ≠ [] := fun e => n2 (List.length_eq_zero_iff.mp (by rw [r2.length, e]; rfl))
      rw [← hK] at h1 h2
      exact .inr (.inr (.inr ⟨p, q, vs, us, e1, e2, h1, h2, m1, big_le h, fun e => absurd e m2, fun _ => new_tup g (r1.append r2) o⟩))
    · exact o.elim
  · exact o.elim
/-- str(..) of an own thing -/
def dStrO (c : Nat) (G : List D → M D) (as : List D) : M D := fun S => match as with
  | [a] => (match asI S a with
    | some (c', _) => if c' = c then ((G [a]).bnd fun r => match r with | .str s => M.ret (.str s) | _ => M.bad) S else .bad
    | none => .bad)
  | _ => .bad
theorem b_strO (R : Meth X.K (w.cm c) "__str__" f) (F : FnOk X.prog X.w X.K X.mg X.base (L2.CX X.prog X.w) k f fd ps (spM w 1 G)) (ar : Ar 1 G) (hr : Room (k + 2) X.A) (hb : L2.Binds X.K fd ps []) (hx : Passes (L2.CX X.prog X.w) X E) : Bi8 X w E (.type "str") (dStrO c G) := by
  refine ⟨_, call_strO R F hr hb hx, fun z as xs Q g rp o => ?_⟩
  unfold dStrO at o
  split at o
  · obtain ⟨v, rfl, r⟩ := RepL.one rp
    split at o
    · rename_i h1
      split at o
      · rename_i h
        subst h
        obtain ⟨p, dx, us, rfl, hH, rf⟩ := asI_at g r h1
        refine ⟨p, dx, us, rfl, hH, sp_of ar g rp ((Out.bnd o).imp fun d z1 x1 g1 o1 v rv => ?_)⟩
        split at o1
        · rw [Rep] at rv
          exact ⟨_, rv, o1.v g1 rep_str⟩
        · exact o1.elim
      · exact o.elim
    · exact o.elim
  · exact o.elim
end
/-! ### texts -/
def strsOf : List D → Option (List Str)
  | [] => some []
  | .str i :: ds => (strsOf ds).map (i :: ·)
  | _ :: _ => none
theorem strsOf_at : ∀ {ds : List D} {ns : List Str}, strsOf ds = some ns → ds = ns.map D.str
  | [], _, h => by cases h; rfl
  | .str i :: ds, ns, h => by
    unfold strsOf at h
    rw [Option.map_eq_some_iff] at h
    obtain ⟨ms, h, rfl⟩ := h
    rw [strsOf_at h]; rfl
  | .non :: _, _, h | .int _ :: _, _, h | .bl _ :: _, _, h | .lst _ :: _, _, h | .tup _ :: _, _, h | .dct _ :: _, _, h | .ins _ _ :: _, _, h | .err _ _ :: _, _, h | .cls _ :: _, _, h | .ty _ :: _, _, h | .loc _ :: _, _, h | .scr _ :: _, _, h => by cases h
theorem strsOf_map (ns : List Str) : strsOf (ns.map D.str) = some ns := by
  induction ns with
  | nil => rfl
  | cons n r ih => rw [List.map_cons, strsOf, ih]; rfl
def dJoin (a b : D) : M D := fun S => match a, (asSq S b).bind strsOf with
  | .str s, some ys => if (ys.map (·.length)).sum + ys.length * s.length ≤ big then .ok (.str (Txt.join s ys)) S else .bad
  | _, _ => .bad
def dSplit (a b : D) : M D := match a, b with
  | .str s, .str t => if (t.length == 0) = false ∧ s.length + 2 ≤ big then M.ret (.lst ((Txt.split s t).map .str)) else M.bad
  | _, _ => M.bad
section
variable {X : Cx} {w : Wd} {E : XK} {o e : Expr} {fo fe : Env8 → M D} {apos pos : Pos}
theorem pm_join (hK : X.K = w.K) (A : PM X w E o fo) (B : PM X w E e fe) (hs : starEach [e] X.env = [(false, eval e X.env)] := by rfl) (hbase : attributeBase o "join" X.env (eval o X.env) = eval o X.env := by rfl) (hline : (apos.endLine == pos.line) = true := by rfl) :
    PM X w E (.Call (.Attribute o "join" apos) [e] [] pos) (fun env => (fo env).bnd fun a => match a with | .str s => (fe env).bnd fun b => dJoin (.str s) b | _ => M.bad) := by
  refine (pe_join A B hs hbase hline).wk fun σ H Q ⟨env, z, eH, G, re, o⟩ => ⟨env, z, eH, G, re, (Out.bnd o).imp fun d z1 x1 g1 o1 v rv => ?_⟩
  split at o1
  · rename_i s
    rw [Rep] at rv
    refine ⟨⟨s, rv⟩, env, z1, rfl, g1, re.mono x1.vx, (Out.bnd o1).imp fun d z2 x2 g2 o2 u ru => ?_⟩
    unfold dJoin at o2
    split at o2
    · rename_i s' ys h0 h
      cases h0
      split at o2
      · rename_i hb
        cases hh : asSq z2.S d with
        | none => rw [hh] at h; cases h
        | some ds =>
          rw [hh] at h
          have e2 := strsOf_at h
          subst e2
          obtain ⟨a, vs, rfl, h1, r1⟩ := asSq_at g2 ru hh
          rw [r1.strs, ← hK] at h1
          exact ⟨_, a, ys, rv, rfl, h1.symm, Nat.le_trans hb (by decide), o2.okv g2 rep_str⟩
      · exact o2.elim
    · exact o2.elim
  · exact o1.elim
theorem pm_split (A : PM X w E o fo) (B : PM X w E e fe) (hs : starEach [e] X.env = [(false, eval e X.env)] := by rfl) (hbase : attributeBase o "split" X.env (eval o X.env) = eval o X.env := by rfl) (hline : (apos.endLine == pos.line) = true := by rfl) :
    PM X w E (.Call (.Attribute o "split" apos) [e] [] pos) (fun env => (fo env).bnd fun a => match a with | .str s => (fe env).bnd fun b => dSplit (.str s) b | _ => M.bad) := by
  refine (pe_split A B hs hbase hline).wk fun σ H Q ⟨env, z, eH, G, re, o⟩ => ⟨env, z, eH, G, re, (Out.bnd o).imp fun d z1 x1 g1 o1 v rv => ?_⟩
  split at o1
  · rename_i s
    rw [Rep] at rv
    refine ⟨⟨s, rv⟩, env, z1, rfl, g1, re.mono x1.vx, (Out.bnd o1).imp fun d z2 x2 g2 o2 u ru => ?_⟩
    cases d with
    | str t =>
      unfold dSplit at o2
      dsimp only at o2
      split at o2
      · rename_i hb
        rw [Rep] at ru
        subst ru
        exact ⟨_, _, rv, rfl, hb.1, big_le hb.2, new_lst g2 (RepL.mkStrs _) o2⟩
      · exact o2.elim
    | _ => exact (show False from o2).elim
  · exact o1.elim
/-! f-texts -/
def dFmt : D → M D
  | .str s => if s.length ≤ big then M.ret (.str s) else M.bad
  | .int i => if i.natAbs.log2 < 1920 then M.ret (.str (toString i)) else M.bad
  | _ => M.bad
theorem pm_fmt (A : PM X w E e fe) : PM X w E (.FormattedValue e (-1) none pos) (f1 dFmt fe) := (pe_fmt A).wk fun σ H Q ⟨env, z, eH, G, re, o⟩ => ⟨env, z, eH, G, re, (Out.bnd o).imp fun d z1 x1 g1 o1 v rv => by
  unfold dFmt at o1
  split at o1
  · rw [Rep] at rv
    split at o1
    · rename_i h
      exact .inl ⟨_, rv, big_le h, o1.v g1 rep_str⟩
    · exact o1.elim
  · rw [Rep] at rv
    split at o1
    · rename_i h
      exact .inr ⟨_, rv, h, o1.v g1 rep_str⟩
    · exact o1.elim
  · exact o1.elim⟩
def fJs : List (Env8 → M D) → Str → Env8 → M D
  | [], acc, _ => M.ret (.str acc)
  | f :: fs, acc, env => (f env).bnd fun d => match d with
    | .str s => if (acc ++ s).length ≤ big then fJs fs (acc ++ s) env else M.bad
    | _ => M.bad
inductive PMJ (X : Cx) (w : Wd) (E : XK) : List Expr → List (Env8 → M D) → Prop where
  | nil : PMJ X w E [] []
  | cons {e : Expr} {f : Env8 → M D} {es : List Expr} {fs : List (Env8 → M D)} (h : PM X w E e f) (r : PMJ X w E es fs) : PMJ X w E (e :: es) (f :: fs)
theorem PMJ.pj {es : List Expr} {fs : List (Env8 → M D)} (h : PMJ X w E es fs) : PJ X es (fs.map (tM w E)) := by
  induction h with
  | nil => exact .nil
  | cons h r ih => exact .cons h ih
theorem js_at {Q : Str → Hp → Prop} {σ : L2.St} : ∀ {fs : List (Env8 → M D)} {acc : Str} {z : Sit} {env : Env8}, Good w z → REnv w z env σ → Out w z (fJs fs acc env z.S) (fun d z' => ∀ s, d = .str s → Q s z'.H) E → tJs (fs.map (tM w E)) acc σ z.H Q
  | [], acc, z, env, g, re, o => (Out.ret o g rfl) acc rfl
  | f :: fs, acc, z, env, g, re, o => ⟨env, z, rfl, g, re, (Out.bnd o).imp fun d z1 x1 g1 o1 v rv => by
    split at o1
    · rename_i s
      rw [Rep] at rv
      split at o1
      · rename_i h
        exact ⟨s, rv, big_le h, js_at g1 (re.mono x1.vx) o1⟩
      · exact o1.elim
    · exact o1.elim⟩
theorem pm_joined {v1 v2 : Expr} {rest : List Expr} {fs : List (Env8 → M D)} (h : PMJ X w E (v1 :: v2 :: rest) fs) : PM X w E (.JoinedStr (v1 :: v2 :: rest) pos) (fJs fs Str.empty) := (pe_joined h.pj).wk fun σ H Q ⟨env, z, eH, G, re, o⟩ => by
  subst eH
  exact js_at G re (o.imp fun d z1 _ _ q s e => q _ (by rw [e]; exact rep_str))
end
end Ol

namespace Ol
open PySem PySem.Spec PyProof.Rows L2
/-! ### errors -/
def sRaise1 (c : Nat) (f : Str) (fs : Env8 → M (List D)) : Env8 → M Fl := fun env => (fs env).bnd fun ds => match ds with
  | [d] => fun S => .er c [(f, d)] S
  | _ => M.bad
def sRaise2 (c : Nat) (f g : Str) (fs : Env8 → M (List D)) : Env8 → M Fl := fun env => (fs env).bnd fun ds => match ds with
  | [d, e] => fun S => .er c [(g, e), (f, d)] S
  | _ => M.bad
section
variable {X : Cx} {w : Wd} {E : XK} {k c : Nat} {fI : Addr} {fd : FuncData} {ps : List Str} {x f g : Str} {p pos pos' : Pos} {e : Expr} {es : List Expr} {fs : Env8 → M (List D)}
theorem rz_of {z : Sit} {fs : List (Str × D)} {us : List (Str × V)} {P : Fl → Sit → Prop} (G : Good w z) (r : RepF w z fs us) (o : Out w z (.er c fs z.S) P E) : Rz (w.cm c) us z.H E := fun d H' hd s hx => by
  have x := Ex.more s
  exact o (z.on H') d us rfl x (G.more s) (r.mono x.vx) hx (fun l => G.fresh hd l)
theorem pms_raise1 (hc : X.calm = true) (tk : Takes X (fun cls d _ H => E cls d H)) (T : ErrT X.K (w.cm c) fI) (F : FnOk X.prog X.w X.K X.mg X.base CX0 k fI fd ps (spErr1 (w.cm c) f)) (hr : Room (k + 1) X.A) (hb : L2.Binds X.K fd ps []) (hg : Gl X x) (hm : X.mg x = some (.ref (w.cm c))) (A : PMA X w E (e :: es) fs)
    (hdb : (x == ("__debug__" : Str)) = false := by decide) (he : starEach (e :: es) X.env = (false, eval e X.env) :: starEach es X.env := by rfl) (hpl : (backTo pos (starEach es X.env)).any (·.1) = false := by rfl) :
    PMS X w E (.Raise (some (.Call (.Name x p) (e :: es) [] pos)) none pos') (sRaise1 c f fs) :=
  (ps_raise hc tk (pmk_oex T.se.oex T.iC T.tI F hr hb .nil pass0 hg hm A hdb he hpl)).wk fun De σ H ⟨env, z, eH, G, re, o⟩ => ⟨env, z, eH, G, re, (Out.bnd o).imp fun ds z1 x1 g1 o1 vs rv => by
    split at o1
    · obtain ⟨v, rfl, r⟩ := RepL.one rv
      exact raise1 (rz_of g1 (by rw [RepF]; exact ⟨v, [], rfl, r, by rw [RepF]⟩) o1)
    · exact o1.elim⟩
theorem pms_raise2 (hc : X.calm = true) (tk : Takes X (fun cls d _ H => E cls d H)) (T : ErrT X.K (w.cm c) fI) (F : FnOk X.prog X.w X.K X.mg X.base CX0 k fI fd ps (spErr2 (w.cm c) f g)) (hr : Room (k + 1) X.A) (hb : L2.Binds X.K fd ps []) (hg : Gl X x) (hm : X.mg x = some (.ref (w.cm c))) (A : PMA X w E (e :: es) fs)
    (hdb : (x == ("__debug__" : Str)) = false := by decide) (he : starEach (e :: es) X.env = (false, eval e X.env) :: starEach es X.env := by rfl) (hpl : (backTo pos (starEach es X.env)).any (·.1) = false := by rfl) :
    PMS X w E (.Raise (some (.Call (.Name x p) (e :: es) [] pos)) none pos') (sRaise2 c f g fs) :=
  (ps_raise hc tk (pmk_oex T.se.oex T.iC T.tI F hr hb .nil pass0 hg hm A hdb he hpl)).wk fun De σ H ⟨env, z, eH, G, re, o⟩ => ⟨env, z, eH, G, re, (Out.bnd o).imp fun ds z1 x1 g1 o1 vs rv => by
    split at o1
    · obtain ⟨v, u, rfl, r, r'⟩ := RepL.two rv
      exact raise2 (rz_of g1 (by rw [RepF]; exact ⟨u, [(f, v)], rfl, r', by rw [RepF]; exact ⟨v, [], rfl, r, by rw [RepF]⟩⟩) o1)
    · exact o1.elim⟩
end
/-! ### super().__init__(..) of an own class -/
def runSup (n m : Nat) (cself : Nat) (fs : Env8 → M (List D)) (G : List D → M D) : List D → M D := fun ds S => if ds.length = n then (match ds with
  | .loc i :: _ => (match S[i]? with
    | some (.ins c _) => if c = cself then (((fs (ds.map some ++ List.replicate (m - n) none)).bnd fun as => (G (.loc i :: as)).bnd fun _ => M.ret .non) S) else .bad
    | _ => .bad)
  | _ => .bad) else .bad
theorem ar_runSup {n m c : Nat} {fs : Env8 → M (List D)} {G : List D → M D} : Ar n (runSup n m c fs G) := fun ds S h => by unfold runSup; rw [if_neg h]
section
variable {P : Program} {wo : World} {wd : Wd} {mg : Str → Option Value} {base : Heap} {N ps ps2 : List Str} {x qual : Str} {st : Stmt} {f f2 D0 : Addr} {fd fd2 : FuncData} {k k2 n2 c : Nat} {p0 p1 p2 p3 p4 : Pos} {e : Expr} {es : List Expr} {ar : Arg} {fs : Env8 → M (List D)} {G : List D → M D}
theorem fn_sup (F : FunS P wd.K x qual st f fd D0) (S : SupScope N ps (defScope st)) (hb : defBody st = [.Expr (.Call (.Attribute (.Call (.Name "super" p0) [] [] p1) "__init__" p2) (e :: es) [] p3) p4]) (hp : ((defArgs st).posonlyargs ++ (defArgs st).args).head? = some ar) (hn : N[0]? = some ar.arg) (hka : (defScope st).names.lookup ar.arg = some .local)
    (hms : mg "super" = none) (hop : PySem.W.nsIn wd.K cStatics "thirdparty.any" = some none) (hl : ps.length ≤ N.length)
    (F2 : FnOk P wo wd.K mg base (L2.CX P wo) k2 f2 fd2 ps2 (spM wd n2 G)) (ar2 : Ar n2 G) (hk2 : k2 ≤ k) (hb2 : L2.Binds wd.K fd2 ps2 []) (ht2 : PySem.W.isFn wd.K (.ref f2) = true) (hf2 : PySem.W.fnIn wd.K f2 = true) (SO : SupO wd.K (wd.cm c) D0 f2)
    (hbody : ∀ (cda cc : Addr) (A : Around) (outer : List Env) (s : Shared) (H : Hp) (E : XK), Room k (A.deeper (PySem.W.ksEnv qual (defScope st) s.heap.objs.size f (.ref cda) cc)) → PMA (cxS (L2.CX P wo) P wo wd.K mg base N qual (defScope st) f (.ref cda) cc A outer s H E) wd E (e :: es) fs)
    (he : ∀ env : Env, starEach (e :: es) env = (false, eval e env) :: starEach es env := by intro _; rfl) (hpl : ∀ env : Env, (backTo p3 (starEach es env)).any (·.1) = false := by intro _; rfl)
    (hev : ∀ (env : Env), ∃ pl : Sem Bool, eval (.Call (.Attribute (.Call (.Name "super" p0) [] [] p1) "__init__" p2) (e :: es) [] p3) env = (do
      let ov ← attributeBase (.Call (.Name "super" p0) [] [] p1) "__init__" env (eval (.Call (.Name "super" p0) [] [] p1) env)
      standAt p2.atName
      let (f, first) ← holding [ov] (getMethod ov "__init__" pl)
      callWith p3 f first (backTo p3 (starEach (e :: es) env)) []) := by intro _; exact ⟨_, rfl⟩)
    (hsw : ∀ env : Env, swapsWith (.Call (.Attribute (.Call (.Name "super" p0) [] [] p1) "__init__" p2) (e :: es) [] p3) none p4.line env = pure false := by intro _; rfl) :
    FnOk P wo wd.K mg base (L2.CX P wo) (k + 1) f fd ps (spM wd ps.length (runSup ps.length N.length c fs G)) := by
  refine FunS.okO F S hb hp hn hka hms hop (fun _ _ _ _ h => h.1) F2 hk2 hb2 ht2 hf2 (fun cda cc A outer s H vs Q E hr h => ?_) he hpl hev hsw
  obtain ⟨hlen, ds, z, rfl, g, r, o⟩ := h
  unfold runSup at o
  split at o
  · rename_i hd
    split at o
    · rename_i i ds'
      split at o
      · rename_i c' fs' hS
        split at o
        · rename_i hc
          subst hc
          have re := renv_start (N := N) r (by omega)
          rw [hd] at re
          rw [RepL] at r
          obtain ⟨v, vs', rfl, r1, r2⟩ := r
          have r1' := r1
          rw [Rep] at r1
          obtain ⟨a, rfl, hm⟩ := r1
          obtain ⟨dx, us, hH, rf⟩ := g.at_ _ _ _ hm hS
          refine ⟨a, _, dx, us, _, ?_, SO, hH, hbody cda cc A outer s z.H E hr, _, z, rfl, g, re, (Out.bnd o).imp fun as z1 x1 g1 o1 ws rw1 => ?_⟩
          · unfold L2.start
            rfl
          · exact sp_of ar2 g1 (RepL.cons (r1'.mono x1.vx) rw1) ((Out.bnd o1).imp fun d z2 x2 g2 o2 v rv => o2.v g2 rep_non)
        · exact o.elim
      · exact o.elim
    · exact o.elim
  · exact o.elim
end
/-! ### lists that are written -/
def sSetI (fo fi fv : Env8 → M D) : Env8 → M Fl := fun env => (fv env).bnd fun v => (fo env).bnd fun o => (fi env).bnd fun i S => match o, i with
  | .loc l, .int n => (match S[l]? with
    | some (.lst ds) => (match ixN ds.length n with | some j => .ok (.nx env) (S.set l (.lst (ds.set j v))) | none => .bad)
    | _ => .bad)
  | _, _ => .bad
def dApp (o v : D) : M D := fun S => match o with
  | .loc l => (match S[l]? with
    | some (.lst ds) => if ds.length < big then .ok .non (S.set l (.lst (ds ++ [v]))) else .bad
    | _ => .bad)
  | _ => .bad
section
variable {X : Cx} {w : Wd} {E : XK} {o i e value : Expr} {fo fi fv fe : Env8 → M D} {apos pos pos' : Pos}
theorem wr_lst {z : Sit} {l : Nat} {a : Addr} {ds ds' : List D} {vs' : List V} (g : Good w z) (hm : z.mu[l]? = some a) (hS : z.S[l]? = some (.lst ds)) (r : RepL w z ds' vs') : Ex z (z.wr l (.lst ds') (upd z.H a (.lst vs'))) ∧ Good w (z.wr l (.lst ds') (upd z.H a (.lst vs'))) := by
  have x : Ex z (z.wr l (.lst ds') (upd z.H a (.lst vs'))) := Ex.wr hm hS rfl
  exact ⟨x, g.wr hm hS rfl ⟨vs', upd_same, r.mono x.vx⟩⟩
theorem pms_setI {kk : Pos} (A : PM X w E o fo) (B : PM X w E i fi) (V8 : PM X w E value fv) (p : PS X (.Assign [.Subscript o i kk] value pos) (tAsg (tM w E fv) (gSub (tM w E fo) (tM w E fi) rSetL))) : PMS X w E (.Assign [.Subscript o i kk] value pos) (sSetI fo fi fv) := p.wk fun De σ H ⟨env, z, eH, G, re, o⟩ => ⟨env, z, eH, G, re, (Out.bnd o).imp fun d z1 x1 g1 o1 v rv =>
  ⟨env, z1, rfl, g1, re.mono x1.vx, (Out.bnd o1).imp fun d2 z2 x2 g2 o2 v2 rv2 => ⟨env, z2, rfl, g2, (re.mono x1.vx).mono x2.vx, (Out.bnd o2).imp fun d3 z3 x3 g3 o3 v3 rv3 => by
    split at o3
    · rename_i l n
      split at o3
      · rename_i ds hS
        split at o3
        · rename_i j hj
          have r2 := rv2.mono x3.vx
          rw [Rep] at r2
          obtain ⟨a, rfl, hm⟩ := r2
          rw [Rep] at rv3
          obtain ⟨vs, hH, rl⟩ := g3.at_ _ _ _ hm hS
          obtain ⟨x4, g4⟩ := wr_lst (ds' := ds.set j d) (vs' := vs.set j v) g3 hm hS (RepL.set ((rv.mono x2.vx).mono x3.vx) j rl)
          refine ⟨a, vs, n, j, rfl, rv3, hH, by rw [← rl.length]; exact hj, ?_⟩
          exact o3 _ rfl x4 g4 σ ((((re.mono x1.vx).mono x2.vx).mono x3.vx).mono x4.vx)
        · exact o3.elim
      · exact o3.elim
    · exact o3.elim⟩⟩⟩
def fApp (fo fe : Env8 → M D) : Env8 → M D := fun env => (fo env).bnd fun o S => match o with
  | .loc l => (match S[l]? with
    | some (.lst _) => ((fe env).bnd fun v => dApp (.loc l) v) S
    | _ => .bad)
  | _ => .bad
theorem pm_append (hK : X.K = w.K) (p : PE X e (tBM X.K "list" rAppend (tM w E fo) (tMA w E (fCons fe fNil)))) : PM X w E e (fApp fo fe) := by
  rw [hK] at p
  refine p.wk fun σ H Q ⟨env, z, eH, G, re, o⟩ => ⟨env, z, eH, G, re, (Out.bnd o).imp fun d z1 x1 g1 o1 v rv => ?_⟩
  split at o1
  · rename_i l
    split at o1
    · rename_i ds hS
      have rv0 := rv
      rw [Rep] at rv
      obtain ⟨a, rfl, hm⟩ := rv
      obtain ⟨vs, hH, rl⟩ := g1.at_ _ _ _ hm hS
      refine ⟨.inl ⟨rfl, vs, .inl (.inl hH)⟩, env, z1, rfl, g1, re.mono x1.vx, ?_⟩
      unfold fCons fNil
      have o2 := Out.bnd o1
      cases h : fe env z1.S with
      | bad => rw [h] at o2; exact o2.elim
      | er c fs S => rw [h] at o2; unfold M.bnd; rw [h]; exact o2
      | ok y S =>
        rw [h] at o2
        unfold M.bnd M.ret
        rw [h]
        intro z2 e2 x2 g2 vs2 rvs
        obtain ⟨u, rfl, ru⟩ := RepL.one rvs
        have o3 := o2 z2 e2 x2 g2
        unfold dApp at o3
        dsimp only at o3
        split at o3
        · rename_i ds2 hS2
          split at o3
          · rename_i hb
            obtain ⟨vs3, hH3, rl3⟩ := g2.at_ _ _ _ (x2.pre _ _ hm) hS2
            obtain ⟨x4, g4⟩ := wr_lst (ds' := ds2 ++ [y]) (vs' := vs3 ++ [u]) g2 (x2.pre _ _ hm) hS2 (rl3.append (RepL.cons ru RepL.nil))
            refine ⟨a, vs3, u, rfl, rfl, hH3, Nat.lt_of_lt_of_le (by rw [← rl3.length]; exact hb) (by decide), ?_⟩
            exact o3 _ rfl x4 g4 _ rep_non
          · exact o3.elim
        · exact o3.elim
    · exact o1.elim
  · exact o1.elim
end
/-! ### enumerate, zip -/
def dEnum (as : List D) : M (List D) := match as with
  | [.lst ds] => M.ret (ds.zipIdx.map fun p => .tup [.int (p.2 : Nat), p.1])
  | _ => M.bad
def dZip (as : List D) : M (List D) := match as with
  | [.lst ds, .lst es] => M.ret ((ds.zip es).map fun p => .tup [p.1, p.2])
  | _ => M.bad
section
variable {X : Cx} {w : Wd} {E : XK} {e e2 : Expr} {fs : Env8 → M (List D)} {q pos tpos : Pos} {elts : List Expr} {kk : Nat}
theorem yl_enum {z : Sit} {ds : List D} {p : Addr} (r : Rep w z (.lst ds) (.ref p)) : Yl w (Ite w.K p) z (ds.zipIdx.map fun q => .tup [.int (q.2 : Nat), q.1]) := fun z1 x g => by
  have r1 := r.mono x
  rw [Rep] at r1
  obtain ⟨a, vs, e, _, h, rl⟩ := r1
  cases e
  have q : SqL w.K z1.H p vs := .inl (.inl h)
  refine ⟨fun i d hd => ?_, vs, q, by simp [rl.length]⟩
  rw [List.getElem?_map] at hd
  cases hz : ds.zipIdx[i]? with
  | none => rw [hz] at hd; cases hd
  | some pr =>
    rw [hz] at hd
    cases hd
    rw [List.getElem?_zipIdx, Option.map_eq_some_iff] at hz
    obtain ⟨d, hd, rfl⟩ := hz
    obtain ⟨v, h1, h2⟩ := rl.get hd
    refine ⟨⟨vs, v, q, h1⟩, fun y H' hy => ?_⟩
    obtain ⟨T, x', rfl, hT, rfl, hy⟩ := hy
    have e3 := hy vs q
    rw [h1] at e3
    cases e3
    have s := Same.new (o := .tup [.int (i : Nat), v]) hT
    refine ⟨z1.on (upd z1.H T (.tup [.int (i : Nat), v])), rfl, rfl, Ex.more s, g.more s, ?_⟩
    rw [Rep]
    exact ⟨T, _, rfl, .inl ⟨g.fresh hT, .inl upd_same⟩, RepL.cons (by simp; exact rep_int) (RepL.cons (h2.mono (Ex.more s).vx) RepL.nil)⟩
theorem yl_zip {z : Sit} {ds es : List D} {p p' : Addr} (r : Rep w z (.lst ds) (.ref p)) (r' : Rep w z (.lst es) (.ref p')) : Yl w (Itz w.K p p') z ((ds.zip es).map fun q => .tup [q.1, q.2]) := fun z1 x g => by
  have r1 := r.mono x
  rw [Rep] at r1
  obtain ⟨a, vs, e, _, h, rl⟩ := r1
  cases e
  have r2 := r'.mono x
  rw [Rep] at r2
  obtain ⟨a, us, e, _, h', rl'⟩ := r2
  cases e
  have q : SqL w.K z1.H p vs := .inl (.inl h)
  have q' : SqL w.K z1.H p' us := .inl (.inl h')
  refine ⟨fun i d hd => ?_, vs, us, q, q', by simp [rl.length, rl'.length]; omega⟩
  rw [List.getElem?_map] at hd
  cases hz : (ds.zip es)[i]? with
  | none => rw [hz] at hd; cases hd
  | some pr =>
    rw [hz] at hd
    cases hd
    rw [List.getElem?_zip_eq_some] at hz
    obtain ⟨v, h1, h2⟩ := rl.get hz.1
    obtain ⟨u, h3, h4⟩ := rl'.get hz.2
    refine ⟨⟨vs, us, v, u, q, q', h1, h3⟩, fun y H' hy => ?_⟩
    obtain ⟨T, x', y', rfl, hT, rfl, hy, hy'⟩ := hy
    have e3 := hy vs q
    rw [h1] at e3
    cases e3
    have e4 := hy' us q'
    rw [h3] at e4
    cases e4
    have s := Same.new (o := .tup [v, u]) hT
    refine ⟨z1.on (upd z1.H T (.tup [v, u])), rfl, rfl, Ex.more s, g.more s, ?_⟩
    rw [Rep]
    exact ⟨T, _, rfl, .inl ⟨g.fresh hT, .inl upd_same⟩, RepL.cons (h2.mono (Ex.more s).vx) (RepL.cons (h4.mono (Ex.more s).vx) RepL.nil)⟩
theorem pmi_enum (hK : X.K = w.K) (hg : Gl X "enumerate") (hm : X.mg "enumerate" = none) (A : PMA X w E [e] fs) (hs : starEach [e] X.env = [(false, eval e X.env)] := by rfl) : PMI X w E (.Tuple elts kk tpos) (.Call (.Name "enumerate" q) [e] [] pos) (f1 dEnum fs) := by
  have p := pi_enum (elts := elts) (kk := kk) (tpos := tpos) (p := q) (pos := pos) hg hm A hs
  rw [hK] at p
  refine p.wk fun σ H R ⟨env, z, eH, G, re, o⟩ => ⟨env, z, eH, G, re, (Out.bnd o).imp fun ds z1 x1 g1 o1 vs rv => ?_⟩
  unfold dEnum at o1
  split at o1
  · obtain ⟨v, rfl, r⟩ := RepL.one rv
    have r0 := r
    rw [Rep] at r
    obtain ⟨a, us, rfl, _, h, rl⟩ := r
    exact ⟨a, us, rfl, .inl (.inl h), (Out.ret o1 g1 rfl) _ (yl_enum r0)⟩
  · exact o1.elim
theorem pmi_zip (hK : X.K = w.K) (hg : Gl X "zip") (hm : X.mg "zip" = none) (A : PMA X w E [e, e2] fs) (hs : starEach [e, e2] X.env = (false, eval e X.env) :: starEach [e2] X.env := by rfl) (hpl : (backTo pos (starEach [e2] X.env)).any (·.1) = false := by rfl) : PMI X w E (.Tuple elts kk tpos) (.Call (.Name "zip" q) [e, e2] [] pos) (f1 dZip fs) := by
  have p := pi_zip (elts := elts) (kk := kk) (tpos := tpos) (p := q) (pos := pos) hg hm A hs hpl
  rw [hK] at p
  refine p.wk fun σ H R ⟨env, z, eH, G, re, o⟩ => ⟨env, z, eH, G, re, (Out.bnd o).imp fun ds z1 x1 g1 o1 vs rv => ?_⟩
  unfold dZip at o1
  split at o1
  · obtain ⟨v, u, rfl, r, r'⟩ := RepL.two rv
    have r0 := r
    have r0' := r'
    rw [Rep] at r r'
    obtain ⟨a, us, rfl, _, h, rl⟩ := r
    obtain ⟨b, ws, rfl, _, h', rl'⟩ := r'
    exact ⟨a, b, us, ws, rfl, .inl (.inl h), .inl (.inl h'), (Out.ret o1 g1 rfl) _ (yl_zip r0 r0')⟩
  · exact o1.elim
end
end Ol

namespace Ol
open PySem PySem.Spec PyProof.Rows L2
/-! ### running the functions -/
section
variable {α β : Type}
def bd (r : Res α) (k : α → M β) : Res β := match r with
  | .ok a S => k a S
  | .er c fs S => .er c fs S
  | .bad => .bad
theorem bd_ok {a : α} {S : Store} {k : α → M β} : bd (.ok a S) k = k a S := rfl
theorem bd_er {c : Nat} {fs : List (Str × D)} {S : Store} {k : α → M β} : bd (.er c fs S) k = .er c fs S := rfl
theorem bd_bad {k : α → M β} : bd .bad k = .bad := rfl
theorem bnd_bd {m : M α} {k : α → M β} {S : Store} : M.bnd m k S = bd (m S) k := rfl
theorem ret_ap {a : α} {S : Store} : M.ret a S = .ok a S := rfl
theorem bad_ap {S : Store} : (M.bad : M α) S = .bad := rfl
theorem ite_ap {c : Prop} [Decidable c] {m n : M α} {S : Store} : (if c then m else n) S = if c then m S else n S := by split <;> rfl
variable {env : Env8} {S : Store} {fa fb fc : Env8 → M D} {fs fr : Env8 → M (List D)} {p q : Env8 → M Bool} {s t : Env8 → M Fl} {d : D} {i j : Nat}
def vK : Option (Option D) → M D
  | some (some d) => M.ret d
  | _ => M.bad
theorem x_var : fVar i env S = vK env[i]? S := by
  unfold fVar
  cases env[i]? with
  | none => rfl
  | some x => cases x <;> rfl
theorem vK_some : vK (some (some d)) S = .ok d S := rfl
theorem x_c : fC d env S = .ok d S := rfl
theorem x_f1 {γ δ : Type} {g : γ → M δ} {fa : Env8 → M γ} : f1 g fa env S = bd (fa env S) g := rfl
def k_f2 {γ : Type} (g : D → D → M γ) (fb : Env8 → M D) (env : Env8) : D → M γ := fun x S1 => bd (fb env S1) (g x)
theorem ap_f2 {γ : Type} {g : D → D → M γ} {x : D} : k_f2 g fb env x S = bd (fb env S) (g x) := rfl
theorem x_f2 {γ : Type} {g : D → D → M γ} : f2 g fa fb env S = bd (fa env S) (k_f2 g fb env) := rfl
theorem x_nil : fNil env S = .ok [] S := rfl
def k_cons2 (x : D) : List D → M (List D) := fun xs S2 => .ok (x :: xs) S2
def k_cons (fr : Env8 → M (List D)) (env : Env8) : D → M (List D) := fun x S1 => bd (fr env S1) (k_cons2 x)
theorem ap_cons {x : D} : k_cons fr env x S = bd (fr env S) (k_cons2 x) := rfl
theorem ap_cons2 {x : D} {xs : List D} : k_cons2 x xs S = .ok (x :: xs) S := rfl
theorem x_cons : fCons fa fr env S = bd (fa env S) (k_cons fr env) := rfl
def k_and (q : Env8 → M Bool) (env : Env8) : Bool → M Bool := fun b S1 => if b = true then q env S1 else .ok false S1
theorem ap_and {b : Bool} : k_and q env b S = if b = true then q env S else .ok false S := rfl
theorem x_and : fAnd p q env S = bd (p env S) (k_and q env) := by
  delta k_and
  unfold fAnd M.bnd bd
  cases p env S with
  | ok b S1 => cases b <;> rfl
  | _ => rfl
def k_or (q : Env8 → M Bool) (env : Env8) : Bool → M Bool := fun b S1 => if b = true then .ok true S1 else q env S1
theorem ap_or {b : Bool} : k_or q env b S = if b = true then .ok true S else q env S := rfl
theorem x_or : fOr p q env S = bd (p env S) (k_or q env) := by
  delta k_or
  unfold fOr M.bnd bd
  cases p env S with
  | ok b S1 => cases b <;> rfl
  | _ => rfl
def k_not : Bool → M Bool := fun b S1 => .ok (!b) S1
theorem ap_not {b : Bool} : k_not b S = .ok (!b) S := rfl
theorem x_not : fNot p env S = bd (p env S) k_not := rfl
def k_if (f g : Env8 → M α) (env : Env8) : Bool → M α := fun b S1 => if b = true then f env S1 else g env S1
theorem ap_if {f g : Env8 → M α} {b : Bool} : k_if f g env b S = if b = true then f env S else g env S := rfl
theorem x_if {f g : Env8 → M α} : fIf p f g env S = bd (p env S) (k_if f g env) := by
  delta k_if
  unfold fIf M.bnd bd
  cases p env S with
  | ok b S1 => cases b <;> rfl
  | _ => rfl
def k_andV2 (fb : Env8 → M D) (env : Env8) : Bool → M D := fun b S2 => if b = true then fb env S2 else .ok (.bl false) S2
def k_andV (fb : Env8 → M D) (env : Env8) : D → M D := fun d S1 => bd (dBool d S1) (k_andV2 fb env)
theorem ap_andV : k_andV fb env d S = bd (dBool d S) (k_andV2 fb env) := rfl
theorem ap_andV2 {b : Bool} : k_andV2 fb env b S = if b = true then fb env S else .ok (.bl false) S := rfl
theorem x_andV : fAndV fa fb env S = bd (fa env S) (k_andV fb env) := by
  delta k_andV
  delta k_andV2
  unfold fAndV M.bnd bd
  cases fa env S with
  | ok d S1 =>
    dsimp only
    cases dBool d S1 with
    | ok b S2 => cases b <;> rfl
    | _ => rfl
  | _ => rfl
def k_orV2 (fb : Env8 → M D) (env : Env8) : Bool → M D := fun b S2 => if b = true then .ok (.bl true) S2 else fb env S2
def k_orV (fb : Env8 → M D) (env : Env8) : D → M D := fun d S1 => bd (dBool d S1) (k_orV2 fb env)
theorem ap_orV : k_orV fb env d S = bd (dBool d S) (k_orV2 fb env) := rfl
theorem ap_orV2 {b : Bool} : k_orV2 fb env b S = if b = true then .ok (.bl true) S else fb env S := rfl
theorem x_orV : fOrV fa fb env S = bd (fa env S) (k_orV fb env) := by
  delta k_orV
  delta k_orV2
  unfold fOrV M.bnd bd
  cases fa env S with
  | ok d S1 =>
    dsimp only
    cases dBool d S1 with
    | ok b S2 => cases b <;> rfl
    | _ => rfl
  | _ => rfl
def k_notV2 : Bool → M D := fun b S2 => .ok (.bl (!b)) S2
def k_notV : D → M D := fun d S1 => bd (dBool d S1) k_notV2
theorem ap_notV : k_notV d S = bd (dBool d S) k_notV2 := rfl
theorem ap_notV2 {b : Bool} : k_notV2 b S = .ok (.bl (!b)) S := rfl
theorem x_notV : fNotV fa env S = bd (fa env S) k_notV := by
  delta k_notV
  delta k_notV2
  unfold fNotV M.bnd bd
  cases fa env S with
  | ok d S1 =>
    dsimp only
    cases dBool d S1 with
    | ok b S2 => rfl
    | _ => rfl
  | _ => rfl
def k_ch4 (g' : D → D → M D) (fc : Env8 → M D) (env : Env8) (y : D) : Bool → M D := fun b S4 => if b = true then bd (fc env S4) (g' y) else .ok (.bl false) S4
def k_ch3 (g' : D → D → M D) (fc : Env8 → M D) (env : Env8) (y : D) : D → M D := fun r S3 => bd (dBool r S3) (k_ch4 g' fc env y)
def k_ch2 (g g' : D → D → M D) (fc : Env8 → M D) (env : Env8) (x : D) : D → M D := fun y S2 => bd (g x y S2) (k_ch3 g' fc env y)
def k_ch1 (g g' : D → D → M D) (fb fc : Env8 → M D) (env : Env8) : D → M D := fun x S1 => bd (fb env S1) (k_ch2 g g' fc env x)
theorem ap_ch1 {g g' : D → D → M D} : k_ch1 g g' fb fc env d S = bd (fb env S) (k_ch2 g g' fc env d) := rfl
theorem ap_ch2 {g g' : D → D → M D} {x : D} : k_ch2 g g' fc env x d S = bd (g x d S) (k_ch3 g' fc env d) := rfl
theorem ap_ch3 {g' : D → D → M D} {y : D} : k_ch3 g' fc env y d S = bd (dBool d S) (k_ch4 g' fc env y) := rfl
theorem ap_ch4 {g' : D → D → M D} {y : D} {b : Bool} : k_ch4 g' fc env y b S = if b = true then bd (fc env S) (g' y) else .ok (.bl false) S := rfl
theorem x_chain {g g' : D → D → M D} : fChain g g' fa fb fc env S = bd (fa env S) (k_ch1 g g' fb fc env) := by
  delta k_ch1
  delta k_ch2
  delta k_ch3
  delta k_ch4
  unfold fChain
  rw [bnd_bd]
  congr 1
  funext x S1
  rw [bnd_bd]
  congr 1
  funext y S2
  rw [bnd_bd, bnd_bd]
  cases g x y S2 with
  | ok r S3 =>
    show bd (dBool r S3) _ = bd (dBool r S3) _
    cases dBool r S3 with
    | ok b S4 => cases b <;> rfl
    | _ => rfl
  | _ => rfl
def k_lst : List D → M D := fun ds S1 => if ds.length ≤ big then .ok (.lst ds) S1 else .bad
theorem ap_lst {ds : List D} : k_lst ds S = if ds.length ≤ big then .ok (.lst ds) S else .bad := rfl
theorem x_lst : fLst fs env S = bd (fs env S) k_lst := by
  delta k_lst
  unfold fLst M.bnd bd
  cases fs env S with
  | ok ds S1 => dsimp only; split <;> rfl
  | _ => rfl
def k_tup : List D → M D := fun ds S1 => if ds.length ≤ big then .ok (.tup ds) S1 else .bad
theorem ap_tup {ds : List D} : k_tup ds S = if ds.length ≤ big then .ok (.tup ds) S else .bad := rfl
theorem x_tup : fTup fs env S = bd (fs env S) k_tup := by
  delta k_tup
  unfold fTup M.bnd bd
  cases fs env S with
  | ok ds S1 => dsimp only; split <;> rfl
  | _ => rfl
def k_lstM : List D → M D := fun ds S1 => if ds.length ≤ big then .ok (.loc S1.length) (S1 ++ [.lst ds]) else .bad
theorem ap_lstM {ds : List D} : k_lstM ds S = if ds.length ≤ big then .ok (.loc S.length) (S ++ [.lst ds]) else .bad := rfl
theorem x_lstM : fLstM fs env S = bd (fs env S) k_lstM := by
  delta k_lstM
  unfold fLstM M.bnd bd
  cases fs env S with
  | ok ds S1 => dsimp only; split <;> rfl
  | _ => rfl
def k_sl2 (fh : Env8 → M (Option Int)) (env : Env8) (x : D) : Option Int → M D := fun l S2 => bd (fh env S2) (dSl x l)
def k_sl (fl fh : Env8 → M (Option Int)) (env : Env8) : D → M D := fun x S1 => bd (fl env S1) (k_sl2 fh env x)
theorem ap_sl {fl fh : Env8 → M (Option Int)} : k_sl fl fh env d S = bd (fl env S) (k_sl2 fh env d) := rfl
theorem ap_sl2 {fh : Env8 → M (Option Int)} {l : Option Int} : k_sl2 fh env d l S = bd (fh env S) (dSl d l) := rfl
theorem x_sl {fl fh : Env8 → M (Option Int)} : fSl fa fl fh env S = bd (fa env S) (k_sl fl fh env) := rfl
/-! statements -/
def sqK (t : Env8 → M Fl) : Fl → M Fl
  | .nx e => t e
  | r => M.ret r
theorem x_seq : sSeq s t env S = bd (s env S) (sqK t) := by
  unfold sSeq M.bnd bd
  cases s env S with
  | ok r S1 => cases r <;> rfl
  | _ => rfl
theorem sqK_nx {e : Env8} : sqK t (.nx e) S = t e S := rfl
theorem sqK_rt : sqK t (.rt d) S = .ok (.rt d) S := rfl
theorem sqK_bk {e : Env8} : sqK t (.bk e) S = .ok (.bk e) S := rfl
theorem sqK_ct {e : Env8} : sqK t (.ct e) S = .ok (.ct e) S := rfl
def k_ret : D → M Fl := fun d S1 => .ok (.rt d) S1
theorem ap_ret : k_ret d S = .ok (.rt d) S := rfl
theorem x_ret : sRet fa env S = bd (fa env S) k_ret := rfl
theorem x_retN : sRetN env S = .ok (.rt .non) S := rfl
def k_drop (env : Env8) : D → M Fl := fun _ S1 => .ok (.nx env) S1
theorem ap_drop : k_drop env d S = .ok (.nx env) S := rfl
theorem x_drop : sDrop fa env S = bd (fa env S) (k_drop env) := rfl
theorem x_next : sNext env S = .ok (.nx env) S := rfl
theorem x_brk : sBrk env S = .ok (.bk env) S := rfl
theorem x_cnt : sCnt env S = .ok (.ct env) S := rfl
def k_set (i : Nat) (env : Env8) : D → M Fl := fun d S1 => .ok (.nx (env.set i (some d))) S1
theorem ap_set : k_set i env d S = .ok (.nx (env.set i (some d))) S := rfl
theorem x_set : sAsg (.nm i) fa env S = bd (fa env S) (k_set i env) := by
  delta k_set
  unfold sAsg M.bnd bd
  cases fa env S with
  | ok d S1 => unfold bindM bindP; rfl
  | _ => rfl
def k_nx : Env8 → M Fl := fun e S2 => .ok (.nx e) S2
def k_asg (p : Pat) (env : Env8) : D → M Fl := fun d S1 => bd (bindM p d env S1) k_nx
theorem ap_nx : k_nx env S = .ok (.nx env) S := rfl
theorem ap_asg {p : Pat} : k_asg p env d S = bd (bindM p d env S) k_nx := rfl
theorem x_asg {p : Pat} : sAsg p fa env S = bd (fa env S) (k_asg p env) := rfl
def k_par (i j : Nat) (env : Env8) : List D → M Fl := fun ds S1 => match ds with | [a, b] => .ok (.nx ((env.set i (some a)).set j (some b))) S1 | _ => .bad
theorem ap_par {a b : D} : k_par i j env [a, b] S = .ok (.nx ((env.set i (some a)).set j (some b))) S := rfl
theorem x_par : sPar i j fs env S = bd (fs env S) (k_par i j env) := by
  delta k_par
  unfold sPar M.bnd bd
  cases fs env S with
  | ok ds S1 => exact match ds with | [] => rfl | [_] => rfl | [_, _] => rfl | _ :: _ :: _ :: _ => rfl
  | _ => rfl
def k_par3 (i j l : Nat) (env : Env8) : List D → M Fl := fun ds S1 => match ds with | [a, b, c] => .ok (.nx (((env.set i (some a)).set j (some b)).set l (some c))) S1 | _ => .bad
theorem ap_par3 {l : Nat} {a b c : D} : k_par3 i j l env [a, b, c] S = .ok (.nx (((env.set i (some a)).set j (some b)).set l (some c))) S := rfl
theorem x_par3 {l : Nat} : sPar3 i j l fs env S = bd (fs env S) (k_par3 i j l env) := by
  delta k_par3
  unfold sPar3 M.bnd bd
  cases fs env S with
  | ok ds S1 => exact match ds with | [] => rfl | [_] => rfl | [_, _] => rfl | [_, _, _] => rfl | _ :: _ :: _ :: _ :: _ => rfl
  | _ => rfl
def k_r1 {γ : Type} (c : Nat) (f : Str) : List D → M γ := fun ds S1 => match ds with | [d] => .er c [(f, d)] S1 | _ => .bad
theorem ap_r1 {γ : Type} {c : Nat} {f : Str} : (k_r1 c f [d] S : Res γ) = .er c [(f, d)] S := rfl
theorem x_raise1 {c : Nat} {f : Str} : sRaise1 c f fs env S = bd (fs env S) (k_r1 c f) := by
  delta k_r1
  unfold sRaise1 M.bnd bd
  cases fs env S with
  | ok ds S1 => exact match ds with | [] => rfl | [_] => rfl | _ :: _ :: _ => rfl
  | _ => rfl
def k_r2 {γ : Type} (c : Nat) (f g : Str) : List D → M γ := fun ds S1 => match ds with | [d, e] => .er c [(g, e), (f, d)] S1 | _ => .bad
theorem ap_r2 {γ : Type} {c : Nat} {f g : Str} {e : D} : (k_r2 c f g [d, e] S : Res γ) = .er c [(g, e), (f, d)] S := rfl
theorem x_raise2 {c : Nat} {f g : Str} : sRaise2 c f g fs env S = bd (fs env S) (k_r2 c f g) := by
  delta k_r2
  unfold sRaise2 M.bnd bd
  cases fs env S with
  | ok ds S1 => exact match ds with | [] => rfl | [_] => rfl | [_, _] => rfl | _ :: _ :: _ :: _ => rfl
  | _ => rfl
def k_si3 (env : Env8) (v o : D) : D → M Fl := fun i S3 => match o, i with
  | .loc l, .int n => (match S3[l]? with
    | some (.lst ds) => (match ixN ds.length n with | some j => .ok (.nx env) (S3.set l (.lst (ds.set j v))) | none => .bad)
    | _ => .bad)
  | _, _ => .bad
def k_si2 (fi : Env8 → M D) (env : Env8) (v : D) : D → M Fl := fun o S2 => bd (fi env S2) (k_si3 env v o)
def k_si1 (fo fi : Env8 → M D) (env : Env8) : D → M Fl := fun v S1 => bd (fo env S1) (k_si2 fi env v)
theorem ap_si1 {fo fi : Env8 → M D} : k_si1 fo fi env d S = bd (fo env S) (k_si2 fi env d) := rfl
theorem ap_si2 {fi : Env8 → M D} {v : D} : k_si2 fi env v d S = bd (fi env S) (k_si3 env v d) := rfl
theorem ap_si3 {v : D} {l : Nat} {n : Int} : k_si3 env v (.loc l) (.int n) S = (match S[l]? with
    | some (.lst ds) => (match ixN ds.length n with | some j => .ok (.nx env) (S.set l (.lst (ds.set j v))) | none => .bad)
    | _ => .bad) := rfl
theorem x_setI {fo fi fv : Env8 → M D} : sSetI fo fi fv env S = bd (fv env S) (k_si1 fo fi env) := rfl
def k_sf2 (cs : List Nat) (f : Str) (env : Env8) (v : D) : D → M Fl := fun o S2 => match o with
  | .loc i => (match S2[i]? with
    | some (.ins c fs) => if c ∈ cs ∧ fs.length < 1000 then .ok (.nx env) (S2.set i (.ins c (putFD f v fs))) else .bad
    | _ => .bad)
  | _ => .bad
def k_sf1 (cs : List Nat) (f : Str) (fo : Env8 → M D) (env : Env8) : D → M Fl := fun v S1 => bd (fo env S1) (k_sf2 cs f env v)
theorem ap_sf1 {cs : List Nat} {f : Str} {fo : Env8 → M D} : k_sf1 cs f fo env d S = bd (fo env S) (k_sf2 cs f env d) := rfl
theorem ap_sf2 {cs : List Nat} {f : Str} {v : D} {i : Nat} : k_sf2 cs f env v (.loc i) S = (match S[i]? with
    | some (.ins c fs) => if c ∈ cs ∧ fs.length < 1000 then .ok (.nx env) (S.set i (.ins c (putFD f v fs))) else .bad
    | _ => .bad) := rfl
theorem x_setF {cs : List Nat} {f : Str} {fo fv : Env8 → M D} : sSetF cs f fo fv env S = bd (fv env S) (k_sf1 cs f fo env) := rfl
/-- what a def makes of its block's end -/
def endK : Fl → M D
  | .nx _ => M.ret .non
  | .rt d => M.ret d
  | _ => M.bad
theorem x_run {n m : Nat} {body : Env8 → M Fl} {ds : List D} (h : ds.length = n) : runF n m body ds S = bd (body (ds.map some ++ List.replicate (m - n) none) S) endK := by
  unfold runF
  rw [if_pos h]
  unfold M.bnd bd
  cases body (ds.map some ++ List.replicate (m - n) none) S with
  | ok r S1 => cases r <;> rfl
  | _ => rfl
theorem endK_rt : endK (.rt d) S = .ok d S := rfl
theorem endK_nx {e : Env8} : endK (.nx e) S = .ok .non S := rfl
/-- the loops -/
def lpK (k : Env8 → M Fl) : Fl → M Fl
  | .nx e => k e
  | .ct e => k e
  | .bk e => M.ret (.nx e)
  | .rt d => M.ret (.rt d)
theorem lpK_nx {k : Env8 → M Fl} {e : Env8} : lpK k (.nx e) S = k e S := rfl
theorem lpK_ct {k : Env8 → M Fl} {e : Env8} : lpK k (.ct e) S = k e S := rfl
theorem lpK_bk {k : Env8 → M Fl} {e : Env8} : lpK k (.bk e) S = .ok (.nx e) S := rfl
theorem lpK_rt {k : Env8 → M Fl} : lpK k (.rt d) S = .ok (.rt d) S := rfl
def k_for (p : Pat) (b : Env8 → M Fl) (env : Env8) : List D → M Fl := fun ds => loopF p b ds env
theorem ap_for {p : Pat} {b : Env8 → M Fl} {ds : List D} : k_for p b env ds S = loopF p b ds env S := rfl
theorem x_for {fi : Env8 → M (List D)} {p : Pat} {b : Env8 → M Fl} : sFor fi p b env S = bd (fi env S) (k_for p b env) := rfl
theorem x_loop0 {p : Pat} {b : Env8 → M Fl} : loopF p b [] env S = .ok (.nx env) S := rfl
theorem x_loop1 {p : Pat} {b : Env8 → M Fl} {ds : List D} : loopF p b (d :: ds) env S = bd (bindM p d env S) fun e S1 => bd (b e S1) (lpK (loopF p b ds)) := by
  rw [loopF, bnd_bd]
  have e : ∀ e S1, ((b e).bnd fun r => match r with
    | .nx e => loopF p b ds e
    | .ct e => loopF p b ds e
    | .bk e => M.ret (.nx e)
    | .rt d => M.ret (.rt d)) S1 = bd (b e S1) (lpK (loopF p b ds)) := fun e S1 => by
    unfold M.bnd bd
    cases b e S1 with
    | ok r S2 => cases r <;> rfl
    | _ => rfl
  unfold bd
  cases bindM p d env S with
  | ok e1 S1 => exact e e1 S1
  | _ => rfl
theorem x_bind {d : D} : bindM (.nm i) d env S = .ok (env.set i (some d)) S := by unfold bindM bindP; rfl
/-- a loop by an invariant -/
theorem loop_inv {p : Pat} {b : Env8 → M Fl} {I : Nat → Env8 → Store → Prop} : ∀ {ds : List D} {k : Nat} {env : Env8} {S : Store}, I k env S → (∀ j d env S, ds[j]? = some d → I (k + j) env S → ∃ e1, bindM p d env S = .ok e1 S ∧ ∃ e2 S2, (b e1 S = .ok (.nx e2) S2 ∨ b e1 S = .ok (.ct e2) S2) ∧ I (k + j + 1) e2 S2) →
    ∃ e S', loopF p b ds env S = .ok (.nx e) S' ∧ I (k + ds.length) e S'
  | [], k, env, S, h, _ => ⟨env, S, rfl, h⟩
  | d :: ds, k, env, S, h, st => by
    obtain ⟨e1, h1, e2, S2, h2, h3⟩ := st 0 d env S rfl h
    obtain ⟨e, S', h4, h5⟩ := loop_inv (ds := ds) (k := k + 1) h3 fun j d' env S hj hI => by
      have := st (j + 1) d' env S (by simpa using hj) (by rw [show k + (j + 1) = k + 1 + j by omega]; exact hI)
      rw [show k + (j + 1) + 1 = k + 1 + j + 1 by omega] at this
      exact this
    refine ⟨e, S', ?_, by rw [List.length_cons, show k + (ds.length + 1) = k + 1 + ds.length by omega]; exact h5⟩
    rw [x_loop1, h1, bd_ok]
    rcases h2 with h2 | h2
    · rw [h2, bd_ok, lpK_nx, h4]
    · rw [h2, bd_ok, lpK_ct, h4]
/-- comprehensions -/
def k_lcE : List D → M D := fun ys S2 => .ok (.lst ys) S2
def k_lc (p : Pat) (t : Env8 → M Bool) (fe : Env8 → M D) (env : Env8) : List D → M D := fun ds S1 => if ds.length ≤ big then bd (noEr (loopC p t fe (wipe8 env p.slots) ds) S1) k_lcE else .bad
theorem ap_lcE {ds : List D} : k_lcE ds S = .ok (.lst ds) S := rfl
theorem ap_lc {p : Pat} {t : Env8 → M Bool} {fe : Env8 → M D} {ds : List D} : k_lc p t fe env ds S = if ds.length ≤ big then bd (noEr (loopC p t fe (wipe8 env p.slots) ds) S) k_lcE else .bad := rfl
theorem x_lc {fi : Env8 → M (List D)} {p : Pat} {t : Env8 → M Bool} {fe : Env8 → M D} : fLc fi p t fe env S = bd (fi env S) (k_lc p t fe env) := by
  delta k_lc
  delta k_lcE
  unfold fLc
  rw [bnd_bd]
  congr 1
  funext ds S1
  split <;> rfl
theorem noEr_ok {m : M α} {a : α} {S' : Store} (h : m S = .ok a S') : noEr m S = .ok a S' := by unfold noEr; rw [h]
/-- each item yields one, the store stays -/
theorem lc_map8 {p : Pat} {fe : Env8 → M D} {g : D → D} : ∀ {ds : List D}, (∀ d ∈ ds, ∃ e, bindM p d env S = .ok e S ∧ fe e S = .ok (g d) S) → loopC p fYes fe env ds S = .ok (ds.map g) S
  | [], _ => rfl
  | d :: ds, h => by
    obtain ⟨e, h1, h2⟩ := h d List.mem_cons_self
    rw [loopC, bnd_bd, h1, bd_ok, bnd_bd]
    show bd (fe e S) _ = _
    rw [h2, bd_ok, bnd_bd, lc_map8 fun d' hd => h d' (List.mem_cons_of_mem _ hd)]
    rfl
/-- some items are kept, the store stays -/
theorem lc_filter8 {p : Pat} {t : Env8 → M Bool} {fe : Env8 → M D} {g : D → D} {k : D → Bool} : ∀ {ds : List D}, (∀ d ∈ ds, ∃ e, bindM p d env S = .ok e S ∧ t e S = .ok (k d) S ∧ (k d = true → fe e S = .ok (g d) S)) → loopC p t fe env ds S = .ok ((ds.filter k).map g) S
  | [], _ => rfl
  | d :: ds, h => by
    obtain ⟨e, h1, h2, h3⟩ := h d List.mem_cons_self
    rw [loopC, bnd_bd, h1, bd_ok, bnd_bd, h2, bd_ok]
    have ih := lc_filter8 (ds := ds) fun d' hd => h d' (List.mem_cons_of_mem _ hd)
    cases hk : k d with
    | true =>
      rw [List.filter_cons_of_pos hk]
      show bd (fe e S) _ = _
      rw [h3 hk, bd_ok, bnd_bd, ih]
      rfl
    | false =>
      rw [List.filter_cons_of_neg (by rw [hk]; decide)]
      exact ih
/-! equality -/
theorem eqG_int {n : Bool} {i j : Int} : dEqG n (.int i) (.int j) S = .ok (.bl (n ^^ decide (i = j))) S := rfl
theorem eqG_str {n : Bool} {i j : Str} : dEqG n (.str i) (.str j) S = .ok (.bl (n ^^ decide (i = j))) S := rfl
theorem eqG_bl {n : Bool} {i j : Bool} : dEqG n (.bl i) (.bl j) S = .ok (.bl (n ^^ decide (i = j))) S := rfl
theorem xor_t {b : Bool} : (true ^^ b) = !b := by cases b <;> rfl
theorem xor_f {b : Bool} : (false ^^ b) = b := by cases b <;> rfl
theorem toPyL_ints (S : Store) : ∀ ns : List Int, toPyL S (ns.map D.int) = some (ns.map PyData.int)
  | [] => by rw [List.map_nil, toPyL]; rfl
  | n :: r => by rw [List.map_cons, toPyL, toPy, toPyL_ints S r]; rfl
theorem ne_nil (S : Store) (ns : List Int) : dEqG true (.lst (ns.map D.int)) (.lst []) S = .ok (.bl (!ns.isEmpty)) S := by
  have h1 : SeqAt.shaped (.list (ns.map .int)) = true := PySem.W.ke_shaped_ints ns
  have h2 : SeqAt.shaped (.list []) = true := by decide
  unfold dEqG pyOf
  simp only [toPy, toPyL_ints, toPyL, Option.map, h1, h2, and_self, if_true]
  cases ns <;> rfl
theorem ne_nil0 (S : Store) : dEqG true (.lst []) (.lst []) S = .ok (.bl false) S := ne_nil S []
theorem ne_nil1 (S : Store) (n : Int) (ns : List Int) : dEqG true (.lst (.int n :: ns.map D.int)) (.lst []) S = .ok (.bl true) S := ne_nil S (n :: ns)
theorem str_inj {a b : String} : (Str.ofString a = Str.ofString b) = (a = b) := by
  apply propext
  constructor
  · intro h
    rw [Str.ofString_eq_toList, Str.ofString_eq_toList] at h
    have h1 : (a.toList.map Char.toNat).toArray = (b.toList.map Char.toNat).toArray := by injection h
    have h2 : a.toList.map Char.toNat = b.toList.map Char.toNat := by simpa using congrArg Array.toList h1
    have inj : ∀ (x y : List Char), x.map Char.toNat = y.map Char.toNat → x = y := by
      intro x
      induction x with
      | nil => intro y h; cases y with
        | nil => rfl
        | cons _ _ => cases h
      | cons c r ih => intro y h; cases y with
        | nil => cases h
        | cons d q =>
          rw [List.map_cons, List.map_cons] at h
          injection h with h3 h4
          rw [ih q h4, Char.ext (UInt32.toNat_inj.mp h3)]
    exact String.toList_inj.mp (inj _ _ h2)
  · intro h; rw [h]
theorem app_get {S : Store} {x : O} : (S ++ [x])[S.length]? = some x := by rw [List.getElem?_append_right (Nat.le_refl _), Nat.sub_self]; rfl
theorem app_set {S : Store} {x y : O} : (S ++ [x]).set S.length y = S ++ [y] := by rw [List.set_append_right _ _ (Nat.le_refl _), Nat.sub_self]; rfl
theorem eqG_tup {n : Bool} {xs ys : List D} {ps qs : List PyData} (h1 : toPyL S xs = some ps) (h2 : toPyL S ys = some qs) (s1 : SeqAt.shaped (.tuple ps) = true) (s2 : SeqAt.shaped (.tuple qs) = true) : dEqG n (.tup xs) (.tup ys) S = .ok (.bl (n ^^ PyData.eqv (.tuple ps) (.tuple qs))) S := by
  unfold dEqG pyOf
  simp only [toPy, h1, h2, Option.map, s1, s2, and_self, if_true]
theorem eqG_lst {n : Bool} {xs ys : List D} {ps qs : List PyData} (h1 : toPyL S xs = some ps) (h2 : toPyL S ys = some qs) (s1 : SeqAt.shaped (.list ps) = true) (s2 : SeqAt.shaped (.list qs) = true) : dEqG n (.lst xs) (.lst ys) S = .ok (.bl (n ^^ PyData.eqv (.list ps) (.list qs))) S := by
  unfold dEqG pyOf
  simp only [toPy, h1, h2, Option.map, s1, s2, and_self, if_true]
theorem eqG_self {n : Bool} {xs : List D} {ps : List PyData} (h1 : toPyL S xs = some ps) (s1 : SeqAt.shaped (.list ps) = true) : dEqG n (.lst xs) (.lst xs) S = .ok (.bl (n ^^ true)) S := by
  rw [eqG_lst h1 h1 s1 s1, SeqAt.eqv_refl _ (SeqAt.canLay_of_shaped s1)]
theorem eqG_loc {n : Bool} {i : Nat} {xs ys : List D} {ps qs : List PyData} (h0 : S[i]? = some (.lst xs)) (h1 : toPyL S xs = some ps) (h2 : toPyL S ys = some qs) (s1 : SeqAt.shaped (.list ps) = true) (s2 : SeqAt.shaped (.list qs) = true) : dEqG n (.loc i) (.lst ys) S = .ok (.bl (n ^^ PyData.eqv (.list ps) (.list qs))) S := by
  unfold dEqG pyOf
  simp only [asL, h0, toPy, h1, h2, Option.map, s1, s2, and_self, if_true]
/-- a store without places in its things -/
def Clean (S : Store) : Prop := ∀ o ∈ S, ∀ k, O.lim k o = true
theorem Clean.all {S : Store} (h : Clean S) (k : Nat) : S.all (O.lim k) = true := List.all_eq_true.mpr fun o ho => h o ho k
theorem Clean.cons {o : O} (h : ∀ k, O.lim k o = true) (r : Clean S) : Clean (o :: S) := fun x hx k => by
  rcases List.mem_cons.mp hx with e | hx
  · rw [e]; exact h k
  · exact r x hx k
theorem Clean.app {T : Store} (h : Clean S) (r : Clean T) : Clean (S ++ T) := fun x hx k => by
  rcases List.mem_append.mp hx with hx | hx
  · exact h x hx k
  · exact r x hx k
theorem Clean.nil : Clean [] := fun _ h => by cases h
theorem run_ret {n m : Nat} {ds : List D} {S' : Store} (h : ds.length = n) (k : fa (ds.map some ++ List.replicate (m - n) none) S = .ok d S') : runF n m (sRet fa) ds S = .ok d S' := by
  rw [x_run h, x_ret, k]
  rfl
theorem if_pos_ap {c : Prop} [Decidable c] {m n : M α} {r : Res α} (h : c) (k : m S = r := by rfl) : (if c then m else n) S = r := by rw [if_pos h]; exact k
/-! f-texts -/
theorem js_go {f : Env8 → M D} {fs : List (Env8 → M D)} {acc y : Str} {a b : Nat} (ha : acc.length ≤ a) (hf : f env S = .ok (.str y) S) (hy : y.length ≤ b) (hb : a + b ≤ 1000) {r : Res D} (h : (acc ++ y).length ≤ a + b → fJs fs (acc ++ y) env S = r) : fJs (f :: fs) acc env S = r := by
  have e : (acc ++ y).length ≤ a + b := by rw [Str.length_append]; omega
  rw [fJs, bnd_bd, hf, bd_ok]
  dsimp only
  rw [if_pos (Nat.le_trans e (Nat.le_trans hb (by decide)))]
  exact h e
/-! objects -/
theorem gc_ok {m : M D} {S' : Store} (h : m S = .ok d S') (h1 : d.lim S.length = true) (h2 : (S'.take S.length).all (O.lim S.length) = true) : gc m S = .ok d (S'.take S.length) := by unfold gc; rw [h]; exact if_pos ⟨h1, h2⟩
theorem mk_ok {c c' : Nat} {G : List D → M D} {ds : List D} {fs : List (Str × D)} (h : G (.loc S.length :: ds) (S ++ [.ins c []]) = .ok .non (S ++ [.ins c' fs])) (h1 : D.limF S.length fs = true) (h2 : S.all (O.lim S.length) = true) : mkIns c G ds S = .ok (.ins c' fs) S := by
  unfold mkIns
  have e : (fun S => match G (.loc S.length :: ds) (S ++ [.ins c []]) with
    | .ok .non S' => (match S'[S.length]? with
      | some (O.ins c' fs) => Res.ok (D.ins c' fs) (S'.set S.length O.off)
      | _ => .bad)
    | .er c' fs S' => .er c' fs S'
    | _ => .bad) S = .ok (D.ins c' fs) (S ++ [O.off]) := by
    dsimp only
    rw [h]
    dsimp only
    rw [List.getElem?_append_right (Nat.le_refl _), Nat.sub_self]
    dsimp only [List.getElem?_cons_zero]
    rw [List.set_append_right _ _ (Nat.le_refl _), Nat.sub_self]
    rfl
  rw [gc_ok e (by rw [D.lim]; exact h1) (by rw [List.take_left]; exact h2), List.take_left]
theorem mk_er {c c' : Nat} {G : List D → M D} {ds : List D} {fs : List (Str × D)} {o : O} (h : G (.loc S.length :: ds) (S ++ [.ins c []]) = .er c' fs (S ++ [o])) (h1 : D.limF S.length fs = true) (h2 : S.all (O.lim S.length) = true) : mkIns c G ds S = .er c' fs S := by
  unfold mkIns gc
  dsimp only
  rw [h]
  dsimp only
  rw [List.take_left, if_pos ⟨h1, h2⟩]
end
end Ol

namespace Ol
open PySem PySem.Spec PyProof.Rows L2
/-! ### the end of a law -/
def spLaw (K : PySem.W.Frag) : Sp := fun vs H Q _ => ∃ (a : Addr) (ns : List Int), vs = [.ref a] ∧ SqL K H a (ns.map V.int) ∧ ns.length ≤ 63 ∧ ∀ H', Q (.bl true) H'
section
variable {P : Program} {wo : World} {w : Wd} {mg : Str → Option Value} {base : Heap} {k : Nat} {f : Addr} {fd : FuncData} {ps : List Str} {F : List D → M D}
theorem law_sp (hT : w.T = []) (hp : ∀ ns : List Int, ns.length ≤ 63 → ∃ S, F [.scr ns] [] = .ok (.bl true) S) {vs : List V} {H : Hp} {Q : VK} {E : XK} (h : spLaw w.K vs H Q E) : spM w 1 F vs H Q fun _ _ _ => False := by
  obtain ⟨a, ns, rfl, hS, hl, q⟩ := h
  refine ⟨rfl, [.scr ns], ⟨[], [], H, []⟩, rfl, ⟨rfl, List.nodup_nil, fun i a o h => (by simp at h), fun a h => (by cases h), fun a h => (by cases h), fun a h => (by cases h), ?_, fun a ps h => (by rcases h with h | h <;> cases h)⟩, ?_, ?_⟩
  · rw [hT]
    intro p h
    cases h
  · rw [RepL]
    refine ⟨_, _, rfl, ?_, by rw [RepL]⟩
    rw [Rep]
    refine ⟨a, rfl, ?_⟩
    rcases hS with hS | hS
    · refine .inl ⟨?_, hS⟩
      rintro (⟨i, o, h, _⟩ | h)
      · simp at h
      · cases h
    · exact .inr hS
  · obtain ⟨S, e⟩ := hp ns hl
    show Out w _ (F [.scr ns] []) _ _
    rw [e]
    intro z' _ _ _ v r
    rw [Rep] at r
    rw [r]
    exact q _
theorem law_endG (G : FnG P wo w.K mg base (L2.CX P wo) k f fd ps (spM w 1 F)) (hl : ps.length = 1) (hT : w.T = []) (hp : ∀ ns : List Int, ns.length ≤ 63 → ∃ S, F [.scr ns] [] = .ok (.bl true) S) : FnG P wo w.K mg base CX0 k f fd ps (spLaw w.K) :=
  ⟨fun vs H Q E ⟨a, ns, e, _⟩ => by rw [e, hl]; rfl, fun A outer s H args us vs Q E hg hr e0 hb r h => codeAny_mono (G.run A outer s H args us vs Q _ hg hr e0 hb r (law_sp hT hp h)) fun x s' hx => by
    cases x with
    | ok a => cases a <;> exact hx
    | error e =>
      obtain ⟨_, _, _, _, _, _, _, _, _, _, _, _, z⟩ := hx
      exact z.elim⟩
theorem law_end (G : FnOk P wo w.K mg base (L2.CX P wo) k f fd ps (spM w 1 F)) (hl : ps.length = 1) (hT : w.T = []) (hp : ∀ ns : List Int, ns.length ≤ 63 → ∃ S, F [.scr ns] [] = .ok (.bl true) S) : FnOk P wo w.K mg base CX0 k f fd ps (spLaw w.K) :=
  ⟨fun vs H Q E ⟨a, ns, e, _⟩ => by rw [e, hl]; rfl, fun A outer s H args us vs Q E hr e0 hb r h => codeAny_mono (G.run A outer s H args us vs Q _ hr e0 hb r (law_sp hT hp h)) fun x s' hx => by
    cases x with
    | ok a => cases a <;> exact hx
    | error e =>
      obtain ⟨_, _, _, _, _, _, _, _, _, _, _, _, z⟩ := hx
      exact z.elim⟩
end
end Ol

namespace Ol
open PySem PySem.Spec PyProof.Rows L2 LamX
/-! ### asking by a lambda -/
section
variable {w : Wd} {z : Sit} {H' : Hp}
theorem Ex.extN (s : ExtN z.H H') : Ex z (z.on H') := ⟨fun _ _ h => h, rfl, fun b o n h t => ⟨s b o h t, n⟩⟩
theorem Good.extN (g : Good w z) (s : ExtN z.H H') (t : Tabs w.T H') : Good w (z.on H') := by
  have eq : ∀ a, (a ∈ z.mu ∨ a ∈ z.hd) → H' a = z.H a := fun a h => by
    cases e : z.H a with
    | none => exact absurd e (h.elim (g.there a) (g.hid a))
    | some u => exact s _ _ e fun ps q => g.nt a ps h (by rw [e, q])
  refine ⟨g.len, g.nd, fun i a o h1 h2 => (g.at_ i a o h1 h2).mono (Ex.extN s).vx (eq a (.inl (List.mem_of_getElem? h1))), fun a h => ?_, fun a h => ?_, g.dis, t, fun a ps h => ?_⟩
  · show H' a ≠ none
    rw [eq a (.inl h)]; exact g.there a h
  · show H' a ≠ none
    rw [eq a (.inr h)]; exact g.hid a h
  · show H' a ≠ _
    rw [eq a h]; exact g.nt a ps h
/-- what the asked def makes of what the lambda does -/
def TTh (w : Wd) (Fh : M D → M D) : (XK → Hp → VK → Prop) → Hp → VK → Prop := fun tl H Q => ∃ (z : Sit) (m : M D), z.H = H ∧ Good w z ∧ (∀ (E : XK) (Q' : VK), Out w z (m z.S) (fun d z2 => ∀ v, Rep w z2 d v → Q' v z2.H) E → tl E z.H Q') ∧ Out w z (Fh m z.S) (fun d z1 => ∀ v, Rep w z1 d v → Q v z1.H) E0
def fHeard (Fh : M D → M D) (fe : Env8 → M D) : Env8 → M D := fun env => noEr (Fh (fe env))
variable {X : Cx} {E : XK} {Fh : M D → M D} {fe : Env8 → M D} {x a : Str} {g c P : Addr} {k : Nat} {st : Stmt} {fd : FuncData} {Ng : List Str} {params : Arguments} {body : Expr} {scope : Scope} {p lpos pos : Pos}
theorem pm_lam (F : Fun X.K x x st g fd) (hb : L2.Binds X.K fd [a] []) (Sg : FnScope Ng [a] (defScope st)) (hG : ∀ cdg, GivesTo X Ng x (defScope st) g cdg (defBody st) a (X.env.qual ++ "<lambda>") (TTh w Fh)) (hg : Gl X x) (hm : X.mg x = some (.ref g))
    (TB : TabB X.base X.mg c P) (hcode : X.env.code = .ref c) (hmT : (P, X.env.qual ++ "<lambda>") ∈ w.T) (hu : ∀ p ∈ w.T, p.1 = P → p.2 = X.env.qual ++ "<lambda>") (hr : Room (k + 2) X.A) (L : LamS X.env.scope scope)
    (hbody : ∀ (A : Around) (outer : List Env) (s : Shared) (H : Hp) (E : XK) (f c' : Addr), Room k (A.deeper (lamEnv X scope s.heap.objs.size f c')) → PM (lamCx X A outer s H E scope f c') w E body fe)
    (hNg : Ng[0]? = some a := by rfl) (hdef : defaultsOf params X.env = ([], []) := by rfl)
    (hbind : ∀ (q : Str) (cl : List (Str × Addr)) (pm cv ctv : Value), bindArgs (PySem.W.kla_fn "<lambda>" q params body scope cl pm cv ctv) ⟨[], []⟩ = pure [] := by intro _ _ _ _ _; rfl)
    (hdb : (x == ("__debug__" : Str)) = false := by decide) (hd : (a == ("__debug__" : Str)) = false := by decide) (hcd : (a == ("__classdict__" : Str)) = false := by decide) :
    PM X w E (.Call (.Name x p) [.Lambda params body scope lpos] [] pos) (fHeard Fh fe) :=
  (pe_lam (t := fun E => tM w E fe) F hb Sg hG hg hm TB hcode hmT hu hr L hbody hNg hdef hbind hdb hd hcd).wk fun σ H Q ⟨env, z, eH, G0, re, o⟩ => by
    subst eH
    refine ⟨G0.tab, fun H1 x1 t1 => ?_⟩
    have e1 : Ex z (z.on H1) := Ex.extN x1
    have g1 : Good w (z.on H1) := G0.extN x1 t1
    refine ⟨z.on H1, fe env, rfl, g1, fun E' Q' o' => ⟨env, z.on H1, rfl, g1, re.mono e1.vx, o'⟩, ?_⟩
    exact Out.ofNoEr (Out.at e1 o)
end
/-! ### what stands around the asking: try, keep the error, tell it -/
def hTail (cs : List Nat) (fr : Env8 → M Fl) (c : Nat) (fs : List (Str × D)) : M D := if c ∈ cs then noEr ((fr [none, some (.err c fs), none]).bnd endK) else M.bad
/-- `return [ask()]` -/
def heardA (cs : List Nat) (fr : Env8 → M Fl) (m : M D) : M D := fun S => match m S with
  | .ok d S1 => .ok (.lst [d]) S1
  | .er c fs S1 => hTail cs fr c fs S1
  | .bad => .bad
/-- `ask()` -/
def heardB (cs : List Nat) (fr : Env8 → M Fl) (m : M D) : M D := fun S => match m S with
  | .ok _ S1 => noEr ((fr [none, some .non, none]).bnd endK) S1
  | .er c fs S1 => hTail cs fr c fs S1
  | .bad => .bad
section
variable {w : Wd} {z : Sit} {fr : Env8 → M Fl} {cs : List Nat} {Q : VK} {K : PySem.W.Frag} {cT : Value} {tl : XK → Hp → VK → Prop} {H : Hp} {c' f : Addr} {qn : Str}
def hEnds (Q : VK) : Ends := { nx := fun _ H' => Q .non H', rt := Q }
theorem end_rd {env : Env8} {σ : L2.St} (g : Good w z) (re : REnv w z env σ) (o : Out w z (noEr ((fr env).bnd endK) z.S) (PQ w Q) E0) : tMS w E0 fr (hEnds Q) σ z.H := by
  refine ⟨env, z, rfl, g, re, (Out.bnd (Out.ofNoEr (E' := E0) o)).imp fun r z1 x1 g1 o1 => ?_⟩
  cases r with
  | nx e => exact fun σ _ => (Out.ret (show Out w z1 (M.ret D.non z1.S) (PQ w Q) E0 from o1) g1 rfl) _ rep_non
  | rt d => exact fun v rv => (Out.ret (show Out w z1 (M.ret d z1.S) (PQ w Q) E0 from o1) g1 rfl) v rv
  | bk e => exact (show False from o1).elim
  | ct e => exact (show False from o1).elim
/-- the handler: the error is kept, then the rest -/
def tsKeep : Addr → Value → Option Addr → TS := fun _ _ _ => tAsg (tVar 2) (gName 1)
theorem tail_rd {Wout : WX} {c : Nat} {fs : List (Str × D)} {us : List (Str × V)} {dx : Addr} (catch_ : ∀ c ∈ cs, PySem.W.exmOne K (.ref (w.cm c)) cT = some true) (g : Good w z) (rf : RepF w z fs us) (hd : z.H dx = some (.xd us)) (nl : ¬ z.live dx)
    (o : Out w z (hTail cs fr c fs z.S) (PQ w Q) E0) {σ' : L2.St} (hl : σ'.length = 3) : wKeep K cT 2 tsKeep Wout { nx := tMS w E0 fr (hEnds Q), rt := Q } (.ref (w.cm c)) (some dx) σ' z.H := by
  unfold hTail at o
  split at o
  · rename_i hc
    refine ⟨true, catch_ c hc, fun _ => ⟨w.cm c, rfl, fun a ha => ?_⟩, fun h => by cases h⟩
    match σ', hl with
    | [x0, x1, x2], _ =>
      refine ⟨.ref a, rfl, ha, ?_⟩
      have s := Same.new (o := exv a (w.cm c) (some dx)) ha
      have x := Ex.more s
      refine end_rd (z := z.on (upd z.H a (exv a (w.cm c) (some dx)))) (env := [none, some (.err c fs), none]) (g.more s) ⟨rfl, fun i d e => ?_⟩ (Out.at x o)
      match i, e with
      | 1, e =>
        cases e
        refine ⟨.ref a, rfl, ?_⟩
        rw [Rep]
        refine ⟨a, dx, us, rfl, g.fresh ha, upd_same, nl, ?_, rf.mono x.vx⟩
        exact s _ _ hd
      | 0, e => cases e
      | 2, e => cases e
      | i + 3, e => simp at e
  · exact o.elim
theorem rdA {Wout : WX} (catch_ : ∀ c ∈ cs, PySem.W.exmOne K (.ref (w.cm c)) cT = some true) (hc : H c' = some (CodeO c' qn)) (h : TTh w (heardA cs fr) tl H Q) :
    ∃ Ech : XK, (∀ cls d σ' H', Ech cls d H' → σ'.length = 3 → wKeep K cT 2 tsKeep Wout { nx := tMS w E0 fr (hEnds Q), rt := Q } cls d σ' H') ∧ H c' = some (CodeO c' qn) ∧ tl Ech H (fun v H1 => ([v] : List V).length ≤ sizeLine ∧ ∀ p, H1 p = none → Q (.ref p) (upd H1 p (.lst [v]))) := by
  obtain ⟨z, m, rfl, g, hm, o⟩ := h
  refine ⟨fun cls d H' => ∀ σ' : L2.St, σ'.length = 3 → wKeep K cT 2 tsKeep Wout { nx := tMS w E0 fr (hEnds Q), rt := Q } cls d σ' H', fun cls d σ' H' h hl => h σ' hl, hc, hm _ _ ?_⟩
  unfold heardA at o
  cases e : m z.S with
  | ok d S1 =>
    rw [e] at o
    intro z1 e1 x1 g1 v rv
    refine ⟨by show 1 ≤ sizeLine; decide, fun p hp => ?_⟩
    exact new_lst (ds := [d]) (vs := [v]) g1 (by rw [RepL]; exact ⟨v, [], rfl, rv, by rw [RepL]⟩) (Out.at x1 (show Out w z (M.ret (.lst [d]) z1.S) (PQ w Q) E0 by rw [e1]; exact o)) p hp
  | er c fs S1 =>
    rw [e] at o
    intro z1 dx us e1 x1 g1 rf hd nl σ' hl
    exact tail_rd catch_ g1 rf hd nl (by rw [e1]; exact Out.at x1 o) hl
  | bad => rw [e] at o; exact o.elim
theorem rdB {Wout : WX} (catch_ : ∀ c ∈ cs, PySem.W.exmOne K (.ref (w.cm c)) cT = some true) (hc : H c' = some (CodeO c' qn)) (h : TTh w (heardB cs fr) tl H Q) :
    ∃ Ech : XK, (∀ cls d σ' H', Ech cls d H' → σ'.length = 3 → wKeep K cT 2 tsKeep Wout { nx := tMS w E0 fr (hEnds Q), rt := Q } cls d σ' H') ∧ H c' = some (CodeO c' qn) ∧ tl Ech H (fun _ H1 => tMS w E0 fr (hEnds Q) [some (.ref f), some .non, none] H1) := by
  obtain ⟨z, m, rfl, g, hm, o⟩ := h
  refine ⟨fun cls d H' => ∀ σ' : L2.St, σ'.length = 3 → wKeep K cT 2 tsKeep Wout { nx := tMS w E0 fr (hEnds Q), rt := Q } cls d σ' H', fun cls d σ' H' h hl => h σ' hl, hc, hm _ _ ?_⟩
  unfold heardB at o
  cases e : m z.S with
  | ok d S1 =>
    rw [e] at o
    intro z1 e1 x1 g1 v rv
    refine end_rd (env := [none, some .non, none]) g1 ⟨rfl, fun i d e => ?_⟩ (by rw [e1]; exact Out.at x1 o)
    match i, e with
    | 1, e => cases e; exact ⟨.non, rfl, rep_non⟩
    | 0, e => cases e
    | 2, e => cases e
    | i + 3, e => simp at e
  | er c fs S1 =>
    rw [e] at o
    intro z1 dx us e1 x1 g1 rf hd nl σ' hl
    exact tail_rd catch_ g1 rf hd nl (by rw [e1]; exact Out.at x1 o) hl
  | bad => rw [e] at o; exact o.elim
end
end Ol

namespace Ol
open PySem PySem.Spec PyProof.Rows L2 LamX
/-! ### defs that make lambdas -/
section
variable {P : Program} {wo : World} {wd : Wd} {mg : Str → Option Value} {base : Heap} {k : Nat} {f c : Addr} {fd : FuncData} {ps N : List Str} {x qual : Str} {st : Stmt} {body : Env8 → M Fl}
theorem fn_okL (F : FunL wd.K x qual st f fd c) (S : FnScope N ps (defScope st)) (hn : ps.length ≤ N.length) (hb : ∀ (A : Around) (outer : List Env) (s : Shared) (H : Hp) (E : XK), Room k (A.deeper (envOfC qual (defScope st) s.heap.objs.size f (.ref c))) →
    PMSs (cxOf (L2.CX P wo) P wo wd.K mg base N qual (defScope st) f (.ref c) A outer s H E) wd E (defBody st) body) : FnOk P wo wd.K mg base (L2.CX P wo) (k + 1) f fd ps (spM wd ps.length (runF ps.length N.length body)) := by
  obtain ⟨oc, od, kV, doc, pm, an, ct, osl, rfl, lk, hcd⟩ := F.ex
  exact fn_of lk hcd S (fun _ _ _ _ h => h.1) fun A outer s H vs Q E hr h => body_at hn (hb A outer s H E hr) h
/-- the same where no repr runs around -/
theorem fn_okGL (F : FunL wd.K x qual st f fd c) (S : FnScope N ps (defScope st)) (hn : ps.length ≤ N.length) (hbd : ∀ (A : Around) (outer : List Env) (s : Shared) (H : Hp) (E : XK), (A.deeper (envOfC qual (defScope st) s.heap.objs.size f (.ref c))).guards = some [] → Room k (A.deeper (envOfC qual (defScope st) s.heap.objs.size f (.ref c))) →
    PMSs (cxOf (L2.CX P wo) P wo wd.K mg base N qual (defScope st) f (.ref c) A outer s H E) wd E (defBody st) body) : FnG P wo wd.K mg base (L2.CX P wo) (k + 1) f fd ps (spM wd ps.length (runF ps.length N.length body)) := by
  have len : ∀ vs H Q E, spM wd ps.length (runF ps.length N.length body) vs H Q E → vs.length = ps.length := fun _ _ _ _ h => h.1
  obtain ⟨oc, od, kV, doc, pm, an, ct, osl, rfl, lk, hcd⟩ := F.ex
  refine ⟨len, fun A outer s H args us vs Q E hg hr e0 hb r hsp => ?_⟩
  have hk : ∀ b o, base.get? b = some o → s.heap.get? b = some o := fun b o e => (e0.bs b o e).1
  have KX := e0.mod.kin.keeps hk
  refine codeAny_call_function hr.depth (KX _ _ lk) rfl S.co S.gen rfl (PySem.W.codeRec_of KX hcd) (hb _ _ _ _ ?_)
  refine wpAny_newFunctionEnv_cells S.kind (fun y hy => ?_) fun env he s1 x => ?_
  · rcases S.par y.1 (List.of_mem_zip hy).1 with q | q
    · exact .inl q
    · exact .inr ⟨q, PySem.W.cellsFrom_some _ _ _ (.inl q)⟩
  subst he
  refine ⟨(e0.mod.nolimit.keeps hk).keeps x.toInCall.keep, codeAny_func ?_⟩
  obtain ⟨t, ht, hq⟩ := body_at hn (hbd A outer s H E hg (hr.deeper _)) hsp
  have I : Inv (cxOf (L2.CX P wo) P wo wd.K mg base N qual (defScope st) f (.ref c) A outer s H E) [] (L2.start N vs) H s1 := inv_start S hr.hd e0 (len _ _ _ _ hsp) r x
  refine wpAny_mono (ht.run [] s1 _ H _ I hq) (fun fl s' hs => ?_) fun e s' hs => hs
  cases fl with
  | ret u =>
    obtain ⟨v, σ', H', J, rv, q⟩ := hs
    exact ⟨v, H', J.os, J.bare, J.base, J.hok, rv, q⟩
  | next =>
    obtain ⟨σ', H', J, q⟩ := hs
    exact ⟨.non, H', J.os, J.bare, J.base, J.hok, rfl, q⟩
  | brk =>
    obtain ⟨_, _, _, q⟩ := hs
    exact False.elim q
  | cont =>
    obtain ⟨_, _, _, q⟩ := hs
    exact False.elim q
end
end Ol

namespace Ol
open PySem PySem.Spec PyProof.Rows L2 LamX PySem.W
/-- the end of a law with code tables whose defs need that no repr runs around -/
theorem walk_ofTG {l : OpenLaw} {n k : Nat} {q : Program} {loose : List Str} {XP : (Str → Option Value) → Heap → Prop} {YP : World → Heap → Prop} {d : DefRec} {K : Params → Frag} {x : Str}
    (hn : l.most = some n) (hn2 : n ≤ sizeLine) (hdf : d.params.defaults = []) (hr : Room k callerA) (hY : ∀ (w : World) (h : Heap), YP w h → (K w.params).In h)
    (F : ∀ (w : World) (mg : Str → Option Value) (fa : Addr) (h : Heap), YP w h →
      (K w.params).In h → h.Ns mainGlobals mg → mg d.name = some (.ref fa) →
      ∃ (fd : FuncData) (cs : List (Addr × Addr)) (sp : Sp), (∀ p ∈ cs, h.get? p.2 = some { cls := .none, data := .fields #[] }) ∧ (∀ p ∈ cs, (K w.params).lookup p.2 = none) ∧ (∀ p ∈ cs, CodeHd h p.1 p.2) ∧ (∀ (s : Shared) (u : Value), BindsTo s fd ⟨[u], []⟩ [(x, u)]) ∧
        (∀ (H : Hp) (a : Addr) (ns : List Int), ns.length ≤ n → (∀ p ∈ cs, H p.2 = some (.tbl #[])) → SqL (K w.params) H a (ns.map V.int) → sp [.ref a] H (fun v _ => v = .bl true) fun _ _ _ => False) ∧
        ∀ base : Heap, (K w.params).In base → base.Ns mainGlobals mg → (∀ p ∈ cs, TabB base mg p.1 p.2) → FnG l.prog w (K w.params) mg base CX0 k fa fd [x] sp) :
    WalkO q loose XP YP l.row.toRowW d [] (fun f vs => PySem.call f vs) := by
  refine Att.attach_call hn hdf fun w s₀ s₁ mg mb fa o pm cd doc a vs ns G Y ho hd hcd hmg hobj hints hlen hg => ?_
  have KX := hY w _ Y
  obtain ⟨fd, cs, sp, hT, nT, C, hb, hsp, hF⟩ := F w mg fa _ Y KX G.T.g hmg
  have rv : Vals (ns.map V.int) vs := vals_ints hints
  have lenV := hints.length
  have hl := Nat.le_trans hlen hn2
  -- the tables' places
  have tT : ∀ b, b ∈ cs.map (·.2) → s₁.heap.get? b = some { cls := .none, data := .fields #[] } ∧ (K w.params).lookup b = none := fun b hb => by
    obtain ⟨p, hp, rfl⟩ := List.mem_map.mp hb
    exact ⟨hT p hp, nT p hp⟩
  have aT : a ∉ cs.map (·.2) := fun z => by
    have e := hobj.symm.trans (tT a z).1
    exact nomatch (congrArg Obj.data (Option.some.inj e) : Data.seq vs.toArray _ = Data.fields #[])
  -- what is tracked at the start: the tables, and the script where it is not written out
  obtain ⟨H, hH, hN, hA⟩ : ∃ H : Hp, (∀ b, b ∈ cs.map (·.2) → H b = some (.tbl #[])) ∧ (∀ b, b ∉ cs.map (·.2) → b ≠ a → H b = none) ∧
      (((K w.params).lookup a = none ∧ H a = some (.frz { cls := .type "list", data := .seq vs.toArray } (.lst (ns.map V.int)))) ∨ (H a = none ∧ (K w.params).lookup a = some { cls := .type "list", data := .seq vs.toArray })) := by
    cases hk : (K w.params).lookup a with
    | none => exact ⟨fun b => if b ∈ cs.map (·.2) then some (.tbl #[]) else if b = a then some (.frz { cls := .type "list", data := .seq vs.toArray } (.lst (ns.map V.int))) else none, fun b hb => if_pos hb, fun b h1 h2 => (if_neg h1).trans (if_neg h2), .inl ⟨rfl, (if_neg aT).trans (if_pos rfl)⟩⟩
    | some o' =>
      have e := KX a o' hk
      rw [hobj] at e
      cases e
      exact ⟨fun b => if b ∈ cs.map (·.2) then some (.tbl #[]) else none, fun b hb => if_pos hb, fun b h1 h2 => if_neg h1, .inr ⟨if_neg aT, rfl⟩⟩
  have kinds : ∀ b u, H b = some u → (b ∈ cs.map (·.2) ∧ u = .tbl #[]) ∨ (b = a ∧ (K w.params).lookup a = none ∧ u = .frz { cls := .type "list", data := .seq vs.toArray } (.lst (ns.map V.int))) := fun b u e => by
    by_cases h1 : b ∈ cs.map (·.2)
    · rw [hH b h1] at e
      exact .inl ⟨h1, (Option.some.inj e).symm⟩
    · by_cases h2 : b = a
      · subst h2
        rcases hA with ⟨h3, h4⟩ | ⟨h3, _⟩
        · rw [h4] at e
          exact .inr ⟨rfl, h3, (Option.some.inj e).symm⟩
        · rw [h3] at e; cases e
      · rw [hN b h1 h2] at e; cases e
  -- what is neither a list nor an empty row of fields is not tracked
  have free : ∀ {b : Addr} {o : Obj}, s₁.heap.get? b = some o → (∀ vs n, o.data ≠ .seq vs n) → o.data ≠ .fields #[] → H b = none := fun {b o} e h1 h2 => by
    cases z : H b with
    | none => rfl
    | some u =>
      rcases kinds b u z with ⟨hb, _⟩ | ⟨hb, _⟩
      · rw [(tT b hb).1] at e
        cases e
        exact (h2 rfl).elim
      · subst hb
        rw [hobj] at e
        cases e
        exact (h1 _ _ rfl).elim
  have nsK : ∀ {b : Addr} {m : Str → Option Value}, s₁.heap.Ns b m → (hidT s₁.heap H).Ns b m := fun {b m} ⟨o, es, ep, e, d, r⟩ => ⟨o, es, ep, hidT_get e (free e (fun _ _ z => by rw [d] at z; cases z) fun z => by rw [d] at z; cases z), d, r⟩
  have hKb : (K w.params).In (hidT s₁.heap H) := fun b o e => hidT_get (KX b o e) (by
    cases z : H b with
    | none => rfl
    | some u =>
      rcases kinds b u z with ⟨hb, _⟩ | ⟨hb, hk, _⟩
      · rw [(tT b hb).2] at e; cases e
      · subst hb
        rw [hk] at e; cases e)
  have hM : Mod (K w.params) mg (hidT s₁.heap H) := ⟨hKb, nsK G.T.g, ⟨mb, nsK G.T.b, G.T.builtins⟩, let ⟨mc, h1, h2⟩ := G.T.nolimit; ⟨mc, nsK h1, h2⟩⟩
  have hok : HOk l.prog w H s₁.heap := fun b u z => by
    rcases kinds b u z with ⟨hb, rfl⟩ | ⟨rfl, _, rfl⟩
    · exact (tT b hb).1
    · exact ⟨hobj, by rw [List.length_map]; exact hl, vs, _, rv, hobj⟩
  have e0 : Env0 l.prog w (K w.params) mg (hidT s₁.heap H) callerA [] s₁ H := ⟨rfl, hM, fun b o e => of_hidT e, Nat.le_of_eq (hidT_size _ _), trivial, fun b hb => absurd (show b ∈ ([] : List Addr) from hb) (by simp), hok, .of_eq hg⟩
  have TB : ∀ p ∈ cs, TabB (hidT s₁.heap H) mg p.1 p.2 := fun p hp => by
    obtain ⟨og, es, ep, eg, dg, _⟩ := G.T.g
    refine ⟨?_, ?_, fun z => ?_⟩
    · obtain ⟨o, us, file, tf, flags, tg, inF, text, tt, e1, r1, r2, r3, r⟩ := C p hp
      exact ⟨o, us, file, tf, flags, tg, inF, text, tt, hidT_get e1 (free e1 (fun _ _ z => by rw [r2] at z; cases z) fun z => by rw [r2] at z; cases z; simp at r3), r1, r2, r3, r⟩
    · obtain ⟨bm, ob, b1, b2, b3, b4, b5, b6⟩ := G.T.bmain
      refine ⟨bm, ob, b1, b2, fun z => ?_, fun z => ?_, hidT_get b3 (free b3 (fun _ _ z => by rw [b6] at z; cases z) fun z => by rw [b6] at z; cases z), b4, b5, b6⟩
      · rw [z, eg] at b3; cases b3; rw [dg] at b6; cases b6
      · rw [z, hT p hp] at b3; cases b3; cases b6
    · rw [z, hT p hp] at eg; cases eg; cases dg
  have hS : SqL (K w.params) H a (ns.map V.int) := by
    rcases hA with ⟨_, h⟩ | ⟨_, h⟩
    · exact .inl (.inr ⟨_, h⟩)
    · exact .inr ⟨_, vs.toArray, _, h, rfl, rfl, rfl, by rw [List.size_toArray, lenV]; exact hl, by simpa using rv⟩
  refine codeAny_mono ((hF _ hKb (nsK G.T.g) TB).run callerA [] s₁ H ⟨[.ref a], []⟩ [.ref a] [.ref a] _ _ rfl hr e0 (hb s₁ (.ref a)) (.cons rfl .nil) (hsp H a ns hlen (fun p hp => hH _ (List.mem_map.mpr ⟨p, hp, rfl⟩)) hS)) fun r s' h => ?_
  cases r with
  | error e => exact (show False from h).elim
  | ok fl =>
    cases fl with
    | next => exact False.elim h
    | brk => exact False.elim h
    | cont => exact False.elim h
    | ret u =>
      obtain ⟨v, H', os, bare, un, hok', r', q⟩ := h
      cases (show v = .bl true from q)
      cases (show u = Value.bool true from r')
      have stay : ∀ b o, b ∉ cs.map (·.2) → s₁.heap.get? b = some o → s'.heap.get? b = some o := fun b o nb e => by
        cases z : H b with
        | none => exact un.keep b o e z (by intro y; exact absurd (show b ∈ ([] : List Addr) from y) (by simp)) (by simp)
        | some u =>
          rcases kinds b u z with ⟨hb, _⟩ | ⟨_, _, rfl⟩
          · exact absurd hb nb
          · have e1 := (hok b _ z).1
            have e2 := (hok' b _ (un.frzs b _ _ z)).1
            rw [e] at e1
            cases e1
            exact e2
      have more : ∀ p ∈ cs, ∃ m : Array Value, s'.heap.get? p.2 = some { cls := .none, data := .fields m } := fun p hp => by
        obtain ⟨m, z⟩ := un.tbls p.2 #[] (hH _ (List.mem_map.mpr ⟨p, hp, rfl⟩))
        exact ⟨_, hok' p.2 _ z⟩
      refine ⟨rfl, ⟨fun b o e => ?_, fun b o e => ?_⟩, os, bare⟩
      · by_cases hb : b ∈ cs.map (·.2)
        · obtain ⟨p, hp, rfl⟩ := List.mem_map.mp hb
          obtain ⟨m, hm⟩ := more p hp
          rw [hT p hp] at e
          cases e
          exact .inr (.inl ⟨((C p hp).tab (hT p hp)).isCodeTable, rfl, #[], m, rfl, by rw [Array.empty_append]; exact hm⟩)
        · exact .inl (stay b o hb e)
      · by_cases hb : b ∈ cs.map (·.2)
        · obtain ⟨p, hp, rfl⟩ := List.mem_map.mp hb
          obtain ⟨m, hm⟩ := more p hp
          exact ⟨_, hm⟩
        · exact ⟨o, stay b o hb e⟩
end Ol

namespace Ol
open PySem PySem.Spec PyProof.Rows L2 LamX
/-! ### fields of errors -/
def dErr (cs : List Nat) (f : Str) (d : D) : M D := fun S => match d with
  | .err c fs => if c ∈ cs then (match lookF f fs with | some v => .ok v S | none => .bad) else .bad
  | _ => .bad
def ErrFld (w : Wd) (f : Str) (cs : List Nat) : Prop := ∀ c ∈ cs, XfC w.K (w.cm c) ∧ PySem.W.findIn w.K (.ref (w.cm c)) f = some none
theorem ef_nil {w : Wd} {f : Str} : ErrFld w f [] := fun _ h => by cases h
theorem ef_cons {w : Wd} {f : Str} {c : Nat} {cs : List Nat} (h1 : XfC w.K (w.cm c)) (h2 : PySem.W.findIn w.K (.ref (w.cm c)) f = some none) (r : ErrFld w f cs) : ErrFld w f (c :: cs) := fun x h => by
  rcases List.mem_cons.mp h with rfl | h
  · exact ⟨h1, h2⟩
  · exact r x h
theorem pm_fldE {X : Cx} {w : Wd} {E : XK} {e : Expr} {fa : Env8 → M D} {pos : Pos} {f : Str} {cs : List Nat} (hK : X.K = w.K) (A : ErrFld w f cs) (h : PM X w E e fa) (hb : attributeBase e f X.env (eval e X.env) = eval e X.env := by rfl) : PM X w E (.Attribute e f pos) (f1 (dErr cs f) fa) :=
  (pe_fldE h hb).wk fun σ H Q ⟨env, z, eH, G, re, o⟩ => ⟨env, z, eH, G, re, (Out.bnd o).imp fun d z1 x1 g1 o1 v rv => by
    unfold dErr at o1
    split at o1
    · rename_i c fs
      split at o1
      · rename_i hc
        split at o1
        · rename_i u hl
          rw [Rep] at rv
          obtain ⟨a, dx, us, rfl, nl, ha, nd, hd, rf⟩ := rv
          obtain ⟨y, ly, ry⟩ := rf.look hl
          exact ⟨a, w.cm c, us, y, rfl, ⟨dx, ha, hd⟩, by rw [hK]; exact (A c hc).1, by rw [hK]; exact (A c hc).2, ly, (Out.ret (show Out w z1 (M.ret u z1.S) _ E from o1) g1 rfl) y ry⟩
        · exact o1.elim
      · exact o1.elim
    · exact o1.elim⟩
/-- kept errors -/
theorem catch_nil {K : PySem.W.Frag} {w : Wd} {cT : Value} : ∀ c ∈ ([] : List Nat), PySem.W.exmOne K (.ref (w.cm c)) cT = some true := fun _ h => by cases h
theorem catch_cons {K : PySem.W.Frag} {w : Wd} {cT : Value} {c : Nat} {cs : List Nat} (h : PySem.W.exmOne K (.ref (w.cm c)) cT = some true) (r : ∀ c ∈ cs, PySem.W.exmOne K (.ref (w.cm c)) cT = some true) : ∀ x ∈ c :: cs, PySem.W.exmOne K (.ref (w.cm x)) cT = some true := fun x hx => by
  rcases List.mem_cons.mp hx with rfl | hx
  · exact h
  · exact r x hx
end Ol

namespace Ol
open PySem PySem.Spec PyProof.Rows L2 LamX
/-! ### the end of a law with code tables -/
def spLawT (K : PySem.W.Frag) (T : List (Addr × Str)) : Sp := fun vs H Q _ => ∃ (a : Addr) (ns : List Int), vs = [.ref a] ∧ SqL K H a (ns.map V.int) ∧ ns.length ≤ 63 ∧ (∀ p ∈ T, H p.1 = some (.tbl #[])) ∧ ∀ H', Q (.bl true) H'
section
variable {P : Program} {wo : World} {w : Wd} {mg : Str → Option Value} {base : Heap} {k : Nat} {f : Addr} {fd : FuncData} {ps : List Str} {F : List D → M D}
theorem tab0 {H : Hp} {p : Addr} {q : Str} (h : H p = some (.tbl #[])) : TabS H p q :=
  ⟨#[], h, by first | trivial | (simp [TriplesOk]), fun pos cv e => by first | (cases e; done) | (simp [codeAmong] at e)⟩
theorem law_spT (hp : ∀ ns : List Int, ns.length ≤ 63 → ∃ S, F [.scr ns] [] = .ok (.bl true) S) {vs : List V} {H : Hp} {Q : VK} {E : XK} (h : spLawT w.K w.T vs H Q E) : spM w 1 F vs H Q fun _ _ _ => False := by
  obtain ⟨a, ns, rfl, hS, hl, hT, q⟩ := h
  refine ⟨rfl, [.scr ns], ⟨[], [], H, []⟩, rfl, ⟨rfl, List.nodup_nil, fun i a o h => (by simp at h), fun a h => (by cases h), fun a h => (by cases h), fun a h => (by cases h), fun p hp => tab0 (hT p hp), fun a ps h => (by rcases h with h | h <;> cases h)⟩, ?_, ?_⟩
  · rw [RepL]
    refine ⟨_, _, rfl, ?_, by rw [RepL]⟩
    rw [Rep]
    refine ⟨a, rfl, ?_⟩
    rcases hS with hS | hS
    · refine .inl ⟨?_, hS⟩
      rintro (⟨i, o, h, _⟩ | h)
      · simp at h
      · cases h
    · exact .inr hS
  · obtain ⟨S, e⟩ := hp ns hl
    show Out w _ (F [.scr ns] []) _ _
    rw [e]
    intro z' _ _ _ v r
    rw [Rep] at r
    rw [r]
    exact q _
theorem law_endGT (G : FnG P wo w.K mg base (L2.CX P wo) k f fd ps (spM w 1 F)) (hl : ps.length = 1) (hp : ∀ ns : List Int, ns.length ≤ 63 → ∃ S, F [.scr ns] [] = .ok (.bl true) S) : FnG P wo w.K mg base CX0 k f fd ps (spLawT w.K w.T) :=
  ⟨fun vs H Q E ⟨a, ns, e, _⟩ => by rw [e, hl]; rfl, fun A outer s H args us vs Q E hg hr e0 hb r h => codeAny_mono (G.run A outer s H args us vs Q _ hg hr e0 hb r (law_spT hp h)) fun x s' hx => by
    cases x with
    | ok a => cases a <;> exact hx
    | error e =>
      obtain ⟨_, _, _, _, _, _, _, _, _, _, _, _, z⟩ := hx
      exact z.elim⟩
end
end Ol

namespace Ol
open PySem PySem.Spec PyProof.Rows L2 LamX
section
variable {X : Cx} {w : Wd} {E : XK} {pos : Pos}
/-- {} -/
theorem pm_dct0 : PM X w E (.Dict [] [] pos) (fC (.dct [])) := pe_dnewK.wk fun σ H Q ⟨env, z, eH, G, re, o⟩ => by
  subst eH
  intro p hp
  have s := Same.new (o := .dK []) hp
  refine o (z.on (upd z.H p (.dK []))) rfl (Ex.more s) (G.more s) (.ref p) ?_
  rw [Rep]
  exact ⟨p, [], rfl, G.fresh hp, upd_same, by rw [RepK]⟩
end
end Ol

/-! != of two lists, two tuples whose items are equal one by one, where == may run own code -/
namespace Ol
open PySem PySem.SeqAt
open AutoSeq1 (wpAny_loadPart')
open MeetsSeq MeetsSeq2 MeetsSeq3 SeqRoads2
section
variable {P : Program} {wo : World} {A : Around} {R : Result → Shared → Prop} {E : Value → Shared → Prop}
theorem ne_loopJ (a c : Addr) (N : Nat) (J : Nat → Shared → Prop) (hl : GQ.ListI P wo A (fun e t => R (.error e) t) a c N J) (fin : ∀ s, J N s → R (.ok (.ret (.bool false))) s) (m : Nat) :
    ∀ i : Nat, N - i = m → i ≤ N → ∀ s, J i s → wpAny (model P wo) A.in1 (Builtin.«list.__eq__.loop» ⟨[.ref a, .ref c, rawInt i, rawInt 3], []⟩) (GQ.FinOf P wo A R) (fun e t => R (.error e) t) s := by
  induction m with
  | zero =>
    intro i hm hi s hJ
    obtain ⟨us, ws, n1, n2, ha, hc, q1, q2, _⟩ := hl _ _ hJ
    have ei : i = N := by omega
    have done : R (.ok (.ret (.bool false))) s := fin s (ei ▸ hJ)
    obtain ⟨hp, g, d, tk, os⟩ := s
    wp_walk using wpAny_loadPart' ha, wpAny_loadPart' hc
    have o1 : us[((i : Nat) : Int).toNat]? = none := by simp; omega
    have o2 : ws[((i : Nat) : Int).toNat]? = none := by simp; omega
    rw [o1, o2]
    wp_walk using wpAny_loadPart' ha, wpAny_loadPart' hc
    show R (.ok (.ret (.bool (us.size != ws.size)))) _
    rw [q1, q2]
    simpa using done
  | succ m ih =>
    intro i hm hi s hJ
    obtain ⟨us, ws, n1, n2, ha, hc, q1, q2, step⟩ := hl _ _ hJ
    have l1 : i < us.size := by omega
    have l2 : i < ws.size := by omega
    have st := step l1 l2
    obtain ⟨hp, g, d, tk, os⟩ := s
    wp_walk using wpAny_loadPart' ha, wpAny_loadPart' hc
    have o1 : us[((i : Nat) : Int).toNat]? = some us[i] := by simp [l1]
    have o2 : ws[((i : Nat) : Int).toNat]? = some ws[i] := by simp [l2]
    have nx : ((i : Int) + 1) = ((i + 1 : Nat) : Int) := by omega
    rw [o1, o2]
    refine wpAny_bind (wpAny_mono st (fun r t z => ?_) fun _ _ x => x)
    obtain ⟨rfl, z⟩ := z
    have again := ih (i + 1) (by omega) (by omega) t z
    obtain ⟨hp2, g2, d2, tk2, os2⟩ := t
    wp_walk
    rw [nx]
    exact ⟨plainId_quiet plain_eq_loop _, codeAny_builtin entry_eq_loop (by
      rw [Around.under_plainId plain_eq_loop _]
      exact again)⟩
theorem list_neJ (a c : Addr) (N : Nat) (J : Nat → Shared → Prop) (hl : GQ.ListI P wo A (fun e t => R (.error e) t) a c N J) (fin : ∀ s, J N s → R (.ok (.ret (.bool false))) s) {s : Shared} (h : J 0 s) :
    wpAny (model P wo) A.in1 (Builtin.«list.__ne__» ⟨[.ref a, .ref c], []⟩) (GQ.FinOf P wo A R) (fun e t => R (.error e) t) s := by
  obtain ⟨us, ws, n1, n2, ha, hc, q1, q2, _⟩ := hl _ _ h
  have go := ne_loopJ (A := A) (R := R) a c N J hl fin _ 0 rfl (Nat.zero_le _) s h
  obtain ⟨hp, g, d, tk, os⟩ := s
  have f3 := AutoSeq1.sub_list_list
  have same : ¬ (us.size != ws.size) = true := by simp [q1, q2]
  wp_walk using wpAny_loadPart' ha, wpAny_loadPart' hc
  exact ⟨plainId_quiet plain_eq_loop _, codeAny_builtin entry_eq_loop (by
    rw [Around.under_plainId plain_eq_loop _]
    exact go)⟩
theorem tuple_neJ (a c : Addr) (us ws : Array Value) (n1 n2 : Nat) (d1 d2 : Option Addr) (s1 s2 : Array (Option Value)) (hz : us.size = ws.size) (J : Nat → Shared → Prop)
    (step : ∀ i (h1 : i < us.size) (h2 : i < ws.size) s, J i s → wpAny (model P wo) A.in1 (eqBool us[i] ws[i]) (fun r t => r = true ∧ J (i + 1) t) (fun e t => R (.error e) t) s)
    (fin : ∀ s, J us.size s → R (.ok (.ret (.bool false))) s) {s : Shared} (ha : s.heap.get? a = some { cls := .type "tuple", dict := d1, data := .seq us n1, slots := s1 }) (hc : s.heap.get? c = some { cls := .type "tuple", dict := d2, data := .seq ws n2, slots := s2 }) (h : J 0 s) :
    wpAny (model P wo) A.in1 (Builtin.«tuple.__ne__» ⟨[.ref a, .ref c], []⟩) (GQ.FinOf P wo A R) (fun e t => R (.error e) t) s := by
  have f2 := AutoSeq1.sub_tuple_tuple
  have zl : (us.toList.zip ws.toList).length = us.size := by simp [hz]
  have h0 := h
  obtain ⟨hp, g, d, tk, os⟩ := s
  wp_walk using wpAny_loadPart' ha, wpAny_loadPart' hc, wpAny_forIn_list _ (fun rest b t => b.1 = none ∧ ∃ i, rest = (us.toList.zip ws.toList).drop i ∧ i ≤ us.size ∧ J i t) _
  case turn =>
    rintro ⟨y, x⟩ rest b t ⟨eb, i, er, hi, hJ⟩
    have hlt : i < (us.toList.zip ws.toList).length := by
      rcases Nat.lt_or_ge i (us.toList.zip ws.toList).length with q | q
      · exact q
      · rw [List.drop_of_length_le q] at er; cases er
    have h1 : i < us.size := zl ▸ hlt
    have h2 : i < ws.size := hz ▸ h1
    rw [List.drop_eq_getElem_cons hlt] at er
    injection er with e1 e2
    have ey : y = us[i] := by have := congrArg Prod.fst e1; simpa using this
    have ex : x = ws[i] := by have := congrArg Prod.snd e1; simpa using this
    subst ey ex
    refine wpAny_bind (wpAny_mono (step i h1 h2 t hJ) (fun r t2 z => ?_) fun _ _ x => x)
    obtain ⟨rfl, z⟩ := z
    wp_walk
    exact ⟨rfl, i + 1, e2, h1, z⟩
  case fin =>
    rintro ⟨b1, b2⟩ t ⟨eb, i, er, hi, hJ⟩
    simp only at eb
    subst eb
    have hge : us.size ≤ i := by
      rcases Nat.lt_or_ge i (us.toList.zip ws.toList).length with q | q
      · rw [List.drop_eq_getElem_cons q] at er; cases er
      · exact zl ▸ q
    have ei : i = us.size := by omega
    have done : R (.ok (.ret (.bool false))) t := fin t (ei ▸ hJ)
    wp_walk
    simpa [Builtin.Tuple.tupleCompareSizes, hz] using done
  case h =>
    exact ⟨rfl, 0, rfl, Nat.zero_le _, h0⟩
theorem rc_listN {a c : Addr} {N : Nat} {Q : Value → Shared → Prop} {s : Shared} (hu : A.units < cLine) (J : Nat → Shared → Prop) (hl : GQ.ListI P wo A E a c N J) (fin : ∀ s, J N s → Q (.bool false) s) (h : J 0 s) :
    wpAny (model P wo) A (richCompare .NotEq (.ref a) (.ref c)) Q E s := by
  obtain ⟨us, ws, n1, n2, ha, hc, _, _, _⟩ := hl _ _ h
  refine wpAny_richCompare_same_room (op := .NotEq) ⟨_, ha, rfl⟩ ⟨_, hc, rfl⟩ F.slot_list_ne (GQ.call_here F.slot_list_ne ⟨_, ha, rfl⟩ F.entry_list_ne (F.args_list_ne_2 _ _) ?_) hu
  exact list_neJ (R := wants (fun v t => v ≠ .notImplemented ∧ Q v t) E) a c N J hl (fun t q => ⟨(fun x => nomatch x), fin t q⟩) h
theorem rc_tupN {a c : Addr} {us ws : Array Value} {Q : Value → Shared → Prop} {s : Shared} (hz : us.size = ws.size) (hu : A.units < cLine) (J : Nat → Shared → Prop) (ha : s.heap.IsTuple a us) (hc : s.heap.IsTuple c ws)
    (step : ∀ i (h1 : i < us.size) (h2 : i < ws.size) s, J i s → wpAny (model P wo) A.in1 (eqBool us[i] ws[i]) (fun r t => r = true ∧ J (i + 1) t) E s)
    (fin : ∀ s, J us.size s → Q (.bool false) s) (h : J 0 s) : wpAny (model P wo) A (richCompare .NotEq (.ref a) (.ref c)) Q E s := by
  obtain ⟨⟨k1, d1, e1, s1⟩, h1, c1, n1, q1⟩ := id ha
  obtain ⟨⟨k2, d2, e2, s2⟩, h2, c2, n2, q2⟩ := id hc
  simp only at c1 q1 c2 q2
  subst c1 q1 c2 q2
  refine wpAny_richCompare_same_room (op := .NotEq) ⟨_, h1, rfl⟩ ⟨_, h2, rfl⟩ F.slot_tuple_ne (GQ.call_here F.slot_tuple_ne ⟨_, h1, rfl⟩ F.entry_tuple_ne (F.args_tuple_ne_2 _ _) ?_) hu
  exact tuple_neJ (R := wants (fun v t => v ≠ .notImplemented ∧ Q v t) E) a c us ws n1 n2 d1 d2 s1 s2 hz J step (fun t q => ⟨(fun x => nomatch x), fin t q⟩) h1 h2 h
end
end Ol

/-! == of lists and tuples that hold own things: where the answer is True -/
namespace Ol
open PySem PySem.Spec PyProof.Rows L2
abbrev EqTb := List (Nat × (List D → M D))
mutual
inductive DqT (tb : EqTb) (S : Store) : Nat → D → D → Prop where
  | flat {n : Nat} {a b : D} {x y : V} : flatD a = some x → flatD b = some y → eqV x y = true → DqT tb S n a b
  | lst {n : Nat} {a b : D} {xs ys : List D} : asL S a = some xs → asL S b = some ys → DqTs tb S n xs ys → DqT tb S (n + 1) a b
  | tup {n : Nat} {a b : D} {xs ys : List D} : asT a = some xs → asT b = some ys → DqTs tb S n xs ys → DqT tb S (n + 1) a b
  | dct0 {n : Nat} {a b : D} : asK S a = some [] → asK S b = some [] → DqT tb S n a b
  | ins {n c : Nat} {a b : D} {fs fs' : List (Str × D)} {G : List D → M D} : asI S a = some (c, fs) → asI S b = some (c, fs') → lookC c tb = some G → G [a, b] S = .ok (.bl true) S → DqT tb S n a b
inductive DqTs (tb : EqTb) (S : Store) : Nat → List D → List D → Prop where
  | nil {n : Nat} : DqTs tb S n [] []
  | cons {n : Nat} {a b : D} {as bs : List D} : DqT tb S n a b → DqTs tb S n as bs → DqTs tb S n (a :: as) (b :: bs)
end
theorem DqTs.len {tb : EqTb} {S : Store} {n : Nat} : ∀ {xs ys : List D}, DqTs tb S n xs ys → xs.length = ys.length
  | [], [], _ => rfl
  | _ :: _, _ :: _, .cons _ r => by rw [List.length_cons, List.length_cons, r.len]
theorem DqTs.get {tb : EqTb} {S : Store} {n : Nat} : ∀ {xs ys : List D} {i : Nat} {a b : D}, DqTs tb S n xs ys → xs[i]? = some a → ys[i]? = some b → DqT tb S n a b
  | x :: xs, y :: ys, 0, _, _, .cons h _, e1, e2 => by simp at e1 e2; rw [← e1, ← e2]; exact h
  | x :: xs, y :: ys, i + 1, _, _, .cons _ r, e1, e2 => r.get (by simpa using e1) (by simpa using e2)
def EqTbOk (X : Cx) (w : Wd) (m : Nat) (tb : EqTb) : Prop := ∀ p ∈ tb, ∃ (k : Nat) (f : Addr) (fd : FuncData) (ps : List Str), k ≤ m ∧ CmpOf X.K (w.cm p.1) .Eq f ∧ FnOk X.prog X.w X.K X.mg X.base (L2.CX X.prog X.w) k f fd ps (spM w 2 p.2) ∧ L2.Binds X.K fd ps [] ∧ Ar 2 p.2
theorem eqtb_nil {X : Cx} {w : Wd} {m : Nat} : EqTbOk X w m [] := fun _ h => by cases h
theorem eqtb_cons {X : Cx} {w : Wd} {m k c : Nat} {G : List D → M D} {f : Addr} {fd : FuncData} {ps : List Str} {tb : EqTb} (hk : k ≤ m) (h1 : CmpOf X.K (w.cm c) .Eq f) (F : FnOk X.prog X.w X.K X.mg X.base (L2.CX X.prog X.w) k f fd ps (spM w 2 G)) (hb : L2.Binds X.K fd ps []) (ar : Ar 2 G) (r : EqTbOk X w m tb) : EqTbOk X w m ((c, G) :: tb) := fun p h => by
  rcases List.mem_cons.mp h with rfl | h
  · exact ⟨k, f, fd, ps, hk, h1, F, hb, ar⟩
  · exact r p h
/-- what a comparison leaves -/
def Run8 (X : Cx) (w : Wd) (pins : List (Addr × Obj)) (σ : L2.St) (z : Sit) (s' : Shared) : Prop := ∃ z' : Sit, Inv X pins σ z'.H s' ∧ Ex z z' ∧ Good w z' ∧ z'.S = z.S
section
variable {X : Cx} {w : Wd} {m : Nat} {tb : EqTb}
theorem Run8.trans {pins : List (Addr × Obj)} {σ : L2.St} {z z1 : Sit} {s' : Shared} (x : Ex z z1) (e : z1.S = z.S) (h : Run8 X w pins σ z1 s') : Run8 X w pins σ z s' := by
  obtain ⟨z', I, x', g, e'⟩ := h
  exact ⟨z', I, x.trans x', g, e'.trans e⟩
theorem own_run8 {A : Around} {k C : Nat} {f : Addr} {fd : FuncData} {ps : List Str} {G : List D → M D} (sb : Sub X k A) (R : CmpOf X.K (w.cm C) .Eq f) (Fn : FnOk X.prog X.w X.K X.mg X.base (L2.CX X.prog X.w) k f fd ps (spM w 2 G)) (hb : L2.Binds X.K fd ps []) (ar : Ar 2 G)
    {pins : List (Addr × Obj)} {σ : L2.St} {s : Shared} {z : Sit} {d e : D} {a b dx dy : Addr} {fs gs : List (Str × V)} (I : Inv X pins σ z.H s) (g : Good w z) (rd : Rep w z d (.ref a)) (re : Rep w z e (.ref b)) (ha : z.H a = some (.ins (w.cm C) dx fs)) (hb' : z.H b = some (.ins (w.cm C) dy gs))
    (o : G [d, e] z.S = .ok (.bl true) z.S) : wpAny (model X.prog X.w) A (richCompare .Eq (.ref a) (.ref b)) (fun r s' => r = .bool true ∧ Run8 X w pins σ z s') X.xe s := by
  obtain ⟨mA, O, _⟩ := ins_get I.hok ha
  obtain ⟨mB, O', _⟩ := ins_get I.hok hb'
  obtain ⟨od, J, _⟩ := O.look
  obtain ⟨od', J', _⟩ := O'.look
  obtain ⟨mm, hF⟩ := I.fr
  refine PySem.W.cmp_K (op := .Eq) (tb := .ref (w.cm C)) sb.room.units0 hF I.ok.mod.kin J J'.type (by simp [PySem.W.notFirst]) R.at_ R.fn ?_
  have e0 : Env0 X.prog X.w X.K X.mg X.base A X.stack s z.H := by
    have q := I.env0
    exact ⟨by rw [sb.fr]; exact q.frames, q.mod, q.bs, q.bsz, q.funs, q.frf, q.hok, q.bare⟩
  have sp : spM w 2 G [.ref a, .ref b] z.H (fun v H' => v = .bl true ∧ ∃ z', z'.H = H' ∧ Ex z z' ∧ Good w z' ∧ z'.S = z.S) E0 := by
    refine sp_of ar g (RepL.cons rd (RepL.cons re RepL.nil)) ?_
    rw [o]
    intro z' e' x' g' v rv
    rw [Rep] at rv
    exact ⟨rv, z', rfl, x', g', e'⟩
  refine wpAny_mono (run_at (us := [.ref a, .ref b]) (vs := [.ref a, .ref b]) Fn sb.room e0 hb (fun e s' h => pass0E pins σ z.H s e s' I h) I (.cons rfl (.cons rfl .nil)) sp) (fun v s' hv => ?_) fun _ _ z => z
  obtain ⟨v', H', I', r', rfl, z', rfl, x', g', e'⟩ := hv
  cases (show v = Value.bool true from r')
  exact ⟨rfl, z', I', x', g', e'⟩
/-- how it stands for things that are compared in a list -/
def EqM (X : Cx) (w : Wd) (m n : Nat) (S : Store) (d e : D) : Prop := ∀ (A : Around) (pins : List (Addr × Obj)) (s : Shared) (σ : L2.St) (z : Sit) (x y : V) (u v : Value), Sub X (m + n) A → Inv X pins σ z.H s → Good w z → z.S = S → Rep w z d x → Rep w z e y → RelV x u → RelV y v →
  wpAny (model X.prog X.w) A (eqBool u v) (fun r s' => r = true ∧ Run8 X w pins σ z s') X.xe s
def RcM (op : CmpOp) (ans : Bool) (X : Cx) (w : Wd) (m n : Nat) (S : Store) (d e : D) : Prop := ∀ (A : Around) (pins : List (Addr × Obj)) (s : Shared) (σ : L2.St) (z : Sit) (x y : V) (u v : Value), Sub X (m + n) A → Inv X pins σ z.H s → Good w z → z.S = S → Rep w z d x → Rep w z e y → RelV x u → RelV y v →
  wpAny (model X.prog X.w) A (richCompare op u v) (fun r s' => r = .bool ans ∧ Run8 X w pins σ z s') X.xe s
theorem RcM.eqM {n : Nat} {S : Store} {d e : D} (h : RcM .Eq true X w m n S d e) (hd : ∀ z v, Good w z → z.S = S → Rep w z d v → ∃ a, v = .ref a) (he : ∀ z v, Good w z → z.S = S → Rep w z e v → ∃ a, v = .ref a) : EqM X w m n S d e := fun A pins s σ z x y u v sb I g eS rd re ru rv => by
  obtain ⟨a, rfl⟩ := hd z x g eS rd
  obtain ⟨b, rfl⟩ := he z y g eS re
  cases (show u = Value.ref a from ru)
  cases (show v = Value.ref b from rv)
  by_cases hab : a = b
  · subst hab
    exact SeqAt.EqAt.same (A := A) (s := s) (.ref a) X.prog X.w X.xe _ ⟨rfl, z, I, Ex.refl z, g, rfl⟩
  · refine GQ.eqBool_refG hab (wpAny_mono (h A pins s σ z (.ref a) (.ref b) _ _ sb I g eS rd re rfl rfl) (fun r s' q => ?_) fun _ _ x => x)
    exact ⟨true, q.1, rfl, q.2⟩
theorem EqM.at_ {n : Nat} {S : Store} {d e : D} (h : EqM X w m n S d e) {A : Around} {pins : List (Addr × Obj)} {s s1 : Shared} {σ : L2.St} {z : Sit} {xs ys : List V} {ds es : List D} {its its2 : List Value} {i : Nat} (sb : Sub X (m + (n + 1)) A) (I1 : Inv X pins σ z.H s1) (g : Good w z) (eS : z.S = S) (r1 : RepL w z ds xs) (r2 : RepL w z es ys) (v1 : Vals xs its) (v2 : Vals ys its2)
    (hd : ds[i]? = some d) (he : es[i]? = some e) (h1 : i < its.toArray.size) (h2 : i < its2.toArray.size) : wpAny (model X.prog X.w) A.in1 (eqBool its.toArray[i] its2.toArray[i]) (fun r s' => r = true ∧ Run8 X w pins σ z s') X.xe s1 := by
  obtain ⟨x, hx, rx⟩ := r1.get hd
  obtain ⟨y, hy, ry⟩ := r2.get he
  obtain ⟨u, hu, ru⟩ := v1.get hx
  obtain ⟨v, hv, rv⟩ := v2.get hy
  have g1 : its[i]? = some its.toArray[i] := by
    have h1' : i < its.length := by simpa using h1
    rw [List.getElem?_eq_getElem h1'] <;> simp
  have g2 : its2[i]? = some its2.toArray[i] := by
    have h2' : i < its2.length := by simpa using h2
    rw [List.getElem?_eq_getElem h2'] <;> simp
  rw [g1] at hu
  rw [g2] at hv
  rw [Option.some.inj hu, Option.some.inj hv]
  exact h A.in1 pins s1 σ z x y u v sb.in1 I1 g eS rx ry ru rv
theorem Ex.repL {z z' : Sit} {ds : List D} {vs : List V} (x : Ex z z') (r : RepL w z ds vs) : RepL w z' ds vs := r.mono x.vx
section
variable {n : Nat} {S : Store} {d e : D} {xs ys : List D}
theorem rcM_lst {op : CmpOp} {ans : Bool} (hop : op = .Eq ∧ ans = true ∨ op = .NotEq ∧ ans = false) (hd : asL S d = some xs) (he : asL S e = some ys) (hl : xs.length = ys.length) (h : ∀ (i : Nat) (a b : D), xs[i]? = some a → ys[i]? = some b → EqM X w m n S a b) : RcM op ans X w m (n + 1) S d e := fun A pins s σ z x y u v sb I g eS rd re ru rv => by
  subst eS
  obtain ⟨a, _, rfl, _, _⟩ := asL_at g rd hd
  obtain ⟨b, _, rfl, _, _⟩ := asL_at g re he
  cases (show u = Value.ref a from ru)
  cases (show v = Value.ref b from rv)
  have items : GQ.ListI X.prog X.w A X.xe a b xs.length (fun _ s' => Run8 X w pins σ z s') := fun i s' q => by
    obtain ⟨z', I', x', g', e'⟩ := id q
    obtain ⟨a', vs1, ea, h1, q1⟩ := asL_at g' (rd.mono x'.vx) (by rw [e']; exact hd)
    obtain ⟨b', vs2, eb, h2, q2⟩ := asL_at g' (re.mono x'.vx) (by rw [e']; exact he)
    cases ea
    cases eb
    obtain ⟨_, its, k1, w1, f1⟩ := (show ObjOk X.prog X.w z'.H s'.heap a (.lst vs1) from I'.hok a _ h1)
    obtain ⟨_, its2, k2, w2, f2⟩ := (show ObjOk X.prog X.w z'.H s'.heap b (.lst vs2) from I'.hok b _ h2)
    have n1 : its.toArray.size = xs.length := by rw [List.size_toArray, ← w1.length, ← q1.length]
    have n2 : its2.toArray.size = xs.length := by rw [List.size_toArray, ← w2.length, ← q2.length, hl]
    refine ⟨its.toArray, its2.toArray, k1, k2, f1, f2, n1, n2, fun h1 h2 => ?_⟩
    have l1 : i < xs.length := by omega
    have l2 : i < ys.length := by omega
    exact wpAny_mono ((h i _ _ (List.getElem?_eq_getElem l1) (List.getElem?_eq_getElem l2)).at_ (s := s') sb I' g' e' q1 q2 w1 w2 (List.getElem?_eq_getElem l1) (List.getElem?_eq_getElem l2) h1 h2) (fun r t q => ⟨q.1, q.2.trans x' e'⟩) fun _ _ z => z
  rcases hop with ⟨rfl, rfl⟩ | ⟨rfl, rfl⟩
  · exact GQ.rc_listG (N := xs.length) sb.room.units0 _ items (fun s' q => ⟨rfl, q⟩) ⟨z, I, Ex.refl z, g, rfl⟩
  · exact rc_listN (N := xs.length) sb.room.units0 _ items (fun s' q => ⟨rfl, q⟩) ⟨z, I, Ex.refl z, g, rfl⟩
theorem rcM_tup (hK : X.K = w.K) {op : CmpOp} {ans : Bool} (hop : op = .Eq ∧ ans = true ∨ op = .NotEq ∧ ans = false) (hd : asT d = some xs) (he : asT e = some ys) (hl : xs.length = ys.length) (h : ∀ (i : Nat) (a b : D), xs[i]? = some a → ys[i]? = some b → EqM X w m n S a b) : RcM op ans X w m (n + 1) S d e := fun A pins s σ z x y u v sb I g eS rd re ru rv => by
  subst eS
  obtain ⟨a, vs1, rfl, h1, q1⟩ := asT_at rd hd
  obtain ⟨b, vs2, rfl, h2, q2⟩ := asT_at re he
  cases (show u = Value.ref a from ru)
  cases (show v = Value.ref b from rv)
  rw [← hK] at h1 h2
  obtain ⟨its, w1, f1, _⟩ := I.tuple h1
  obtain ⟨its2, w2, f2, _⟩ := I.tuple h2
  have n1 : its.toArray.size = xs.length := by rw [List.size_toArray, ← w1.length, ← q1.length]
  have n2 : its2.toArray.size = xs.length := by rw [List.size_toArray, ← w2.length, ← q2.length, hl]
  have step : ∀ i (h1 : i < its.toArray.size) (h2 : i < its2.toArray.size) s', Run8 X w pins σ z s' → wpAny (model X.prog X.w) A.in1 (eqBool its.toArray[i] its2.toArray[i]) (fun r t => r = true ∧ Run8 X w pins σ z t) X.xe s' := fun i h1 h2 s' q => by
    obtain ⟨z', I', x', g', e'⟩ := id q
    have l1 : i < xs.length := by omega
    have l2 : i < ys.length := by omega
    exact wpAny_mono ((h i _ _ (List.getElem?_eq_getElem l1) (List.getElem?_eq_getElem l2)).at_ (s := s') sb I' g' e' (q1.mono x'.vx) (q2.mono x'.vx) w1 w2 (List.getElem?_eq_getElem l1) (List.getElem?_eq_getElem l2) h1 h2) (fun r t q => ⟨q.1, q.2.trans x' e'⟩) fun _ _ z => z
  rcases hop with ⟨rfl, rfl⟩ | ⟨rfl, rfl⟩
  · exact GQ.rc_tupG (n1.trans n2.symm) sb.room.units0 (fun _ s' => Run8 X w pins σ z s') f1 f2 step (fun s' q => ⟨rfl, q⟩) ⟨z, I, Ex.refl z, g, rfl⟩
  · exact rc_tupN (n1.trans n2.symm) sb.room.units0 (fun _ s' => Run8 X w pins σ z s') f1 f2 step (fun s' q => ⟨rfl, q⟩) ⟨z, I, Ex.refl z, g, rfl⟩
theorem eqM_flat {x y : V} (hd : flatD d = some x) (he : flatD e = some y) (h : eqV x y = true) : EqM X w m n S d e := fun A pins s σ z x' y' u v sb I g eS rd re ru rv => by
  obtain ⟨rfl, f1⟩ := flatD_at rd hd
  obtain ⟨rfl, f2⟩ := flatD_at re he
  have q := eqAt_V (A := A) (s := s) ru rv f1 f2
  rw [h] at q
  exact q X.prog X.w X.xe _ ⟨rfl, z, I, Ex.refl z, g, rfl⟩
theorem eqM_ins (T : EqTbOk X w m tb) {c : Nat} {fs fs' : List (Str × D)} {G : List D → M D} (hd : asI S d = some (c, fs)) (he : asI S e = some (c, fs')) (hG : lookC c tb = some G) (o : G [d, e] S = .ok (.bl true) S) : EqM X w m n S d e := by
  refine RcM.eqM (fun A pins s σ z x y u v sb I g eS rd re ru rv => ?_) (fun z v g eS r => ?_) (fun z v g eS r => ?_)
  · subst eS
    obtain ⟨a, dx, us, rfl, h1, _⟩ := asI_at g rd hd
    obtain ⟨b, dy, us', rfl, h2, _⟩ := asI_at g re he
    cases (show u = Value.ref a from ru)
    cases (show v = Value.ref b from rv)
    obtain ⟨k, f, fd, ps, hk, R, Fn, hb, ar⟩ := T _ (lookC_mem hG)
    exact own_run8 (sb.mono (Nat.le_trans hk (Nat.le_add_right m n))) R Fn hb ar I g rd re h1 h2 o
  · subst eS; obtain ⟨a, _, _, h, _⟩ := asI_at g r hd; exact ⟨a, h⟩
  · subst eS; obtain ⟨a, _, _, h, _⟩ := asI_at g r he; exact ⟨a, h⟩
end
theorem eqM_dct0 {n : Nat} {S : Store} {d e : D} (hd : asK S d = some []) (he : asK S e = some []) : EqM X w m n S d e := by
  refine RcM.eqM (fun A pins s σ z x y u v sb I g eS rd re ru rv => ?_) (fun z v g eS r => ?_) (fun z v g eS r => ?_)
  · subst eS
    obtain ⟨a, us, rfl, h1, q1⟩ := asK_at g rd hd
    obtain ⟨b, vs, rfl, h2, q2⟩ := asK_at g re he
    rw [RepK] at q1 q2
    subst q1 q2
    exact eqR_run (F := fun _ _ => False) I sb.room.units0 (fun _ _ _ _ h => h.elim) (.inr ⟨a, b, [], [], rfl, rfl, h1, h2, rfl, fun p h => by cases h⟩) ru rv _ _ ⟨rfl, z, I, Ex.refl z, g, rfl⟩
  · subst eS; obtain ⟨a, _, h, _⟩ := asK_at g r hd; exact ⟨a, h⟩
  · subst eS; obtain ⟨a, _, h, _⟩ := asK_at g r he; exact ⟨a, h⟩
mutual
theorem dqT_at (hK : X.K = w.K) (T : EqTbOk X w m tb) {S : Store} : ∀ {n : Nat} {d e : D}, DqT tb S n d e → EqM X w m n S d e
  | _, _, _, .flat h1 h2 h3 => eqM_flat h1 h2 h3
  | _, _, _, .lst h1 h2 h3 => (rcM_lst (.inl ⟨rfl, rfl⟩) h1 h2 h3.len (dqTs_at hK T h3)).eqM (fun z v g eS r => by subst eS; obtain ⟨a, _, h, _⟩ := asL_at g r h1; exact ⟨a, h⟩) (fun z v g eS r => by subst eS; obtain ⟨a, _, h, _⟩ := asL_at g r h2; exact ⟨a, h⟩)
  | _, _, _, .tup h1 h2 h3 => (rcM_tup hK (.inl ⟨rfl, rfl⟩) h1 h2 h3.len (dqTs_at hK T h3)).eqM (fun z v g eS r => by obtain ⟨a, _, h, _⟩ := asT_at r h1; exact ⟨a, h⟩) (fun z v g eS r => by obtain ⟨a, _, h, _⟩ := asT_at r h2; exact ⟨a, h⟩)
  | _, _, _, .dct0 h1 h2 => eqM_dct0 h1 h2
  | _, _, _, .ins h1 h2 h3 h4 => eqM_ins T h1 h2 h3 h4
theorem dqTs_at (hK : X.K = w.K) (T : EqTbOk X w m tb) {S : Store} : ∀ {n : Nat} {xs ys : List D}, DqTs tb S n xs ys → ∀ (i : Nat) (a b : D), xs[i]? = some a → ys[i]? = some b → EqM X w m n S a b
  | _, _, _, .nil, i, _, _, h, _ => by simp at h
  | _, _, _, .cons h r, 0, a, b, h1, h2 => by simp at h1 h2; rw [← h1, ← h2]; exact dqT_at hK T h
  | _, _, _, .cons h r, i + 1, a, b, h1, h2 => dqTs_at hK T r i a b (by simpa using h1) (by simpa using h2)
end
open Classical in
/-- == (neg: !=) of lists and tuples, equal ones alone -/
noncomputable def dEqT (tb : EqTb) (n : Nat) (neg : Bool) (a b : D) : M D := fun S => if (∃ xs ys, ((asL S a = some xs ∧ asL S b = some ys) ∨ (asT a = some xs ∧ asT b = some ys)) ∧ DqTs tb S n xs ys) then .ok (.bl (!neg)) S else .bad
theorem eqT_ok {n : Nat} {neg : Bool} {a b : D} {S : Store} {xs ys : List D} (h : (asL S a = some xs ∧ asL S b = some ys) ∨ (asT a = some xs ∧ asT b = some ys)) (q : DqTs tb S n xs ys) : dEqT tb n neg a b S = .ok (.bl (!neg)) S := if_pos ⟨xs, ys, h, q⟩
def rRun (X : Cx) (w : Wd) (op : CmpOp) (ans : Bool) (m n : Nat) : R2 := fun x y H Q => ∃ (z : Sit) (d e : D), z.H = H ∧ Good w z ∧ Rep w z d x ∧ Rep w z e y ∧ RcM op ans X w m n z.S d e ∧ ∀ z' : Sit, z'.S = z.S → Ex z z' → Good w z' → Q (.bl ans) z'.H
theorem op_rcM {op : CmpOp} {ans : Bool} {n : Nat} (hop : ∀ a b, compareOp op a b = richCompare op a b) (hr : Room (m + n) X.A) : OpR X (compareOp op) (rRun X w op ans m n) := by
  intro pins s σ H x y v u Q I rx ry h
  obtain ⟨z, d, e, rfl, g, rd, re, run, q⟩ := h
  rw [hop]
  refine wpAny_mono (run X.A pins s σ z x y v u ⟨hr, rfl⟩ I g rfl rd re rx ry) (fun r s' hq => ?_) fun _ _ z => z
  obtain ⟨rfl, z', I', x', g', e'⟩ := hq
  exact ⟨.bl ans, z'.H, I', rfl, q z' e' x' g'⟩
variable {E : XK}
theorem c_eqT {n : Nat} (hK : X.K = w.K) (T : EqTbOk X w m tb) (hr : Room (m + (n + 1)) X.A) : Cmp8 X w E .Eq (dEqT tb n false) := ⟨_, op_rcM (w := w) (ans := true) rich_eq hr, fun z a b x y Q g ra rb o => by
  unfold dEqT at o
  split at o
  · rename_i h
    obtain ⟨xs, ys, h, q⟩ := h
    refine ⟨z, a, b, rfl, g, ra, rb, ?_, fun z' e' x' g' => o z' e' x' g' _ rep_bl⟩
    rcases h with ⟨h1, h2⟩ | ⟨h1, h2⟩
    · exact rcM_lst (.inl ⟨rfl, rfl⟩) h1 h2 q.len (dqTs_at hK T q)
    · exact rcM_tup hK (.inl ⟨rfl, rfl⟩) h1 h2 q.len (dqTs_at hK T q)
  · exact o.elim⟩
theorem rich_ne (a b : Value) : compareOp .NotEq a b = richCompare .NotEq a b := rfl
theorem c_neT {n : Nat} (hK : X.K = w.K) (T : EqTbOk X w m tb) (hr : Room (m + (n + 1)) X.A) : Cmp8 X w E .NotEq (dEqT tb n true) := ⟨_, op_rcM (w := w) (ans := false) rich_ne hr, fun z a b x y Q g ra rb o => by
  unfold dEqT at o
  split at o
  · rename_i h
    obtain ⟨xs, ys, h, q⟩ := h
    refine ⟨z, a, b, rfl, g, ra, rb, ?_, fun z' e' x' g' => o z' e' x' g' _ rep_bl⟩
    rcases h with ⟨h1, h2⟩ | ⟨h1, h2⟩
    · exact rcM_lst (.inr ⟨rfl, rfl⟩) h1 h2 q.len (dqTs_at hK T q)
    · exact rcM_tup hK (.inr ⟨rfl, rfl⟩) h1 h2 q.len (dqTs_at hK T q)
  · exact o.elim⟩
end
end Ol

/-! own things: op of two of one class, called, methods by keywords, len, truth, [ ], properties -/
namespace Ol
open PySem PySem.W PySem.Calls PySem.Spec PyProof.Rows L2
section
variable {X : Cx} {w : Wd} {E : XK} {k c n : Nat} {f : Addr} {fd : FuncData} {ps : List Str} {G : List D → M D} {e o a b : Expr} {es : List Expr} {fo fa fb : Env8 → M D} {fs : Env8 → M (List D)} {pos apos : Pos}
/-! two of one class -/
structure OwnSame (K : PySem.W.Frag) (C : Addr) (op : Operator) (f : Addr) : Prop where
  first : selfFirst K C = true
  at_ : findIn K (.ref C) (PySem.dunder op.info.2) = some (some (.ref f))
  fn : isFn K (.ref f) = true
def dOwnS (c : Nat) (G : List D → M D) (a b : D) : M D := fun S => match asI S a, asI S b with
  | some (c1, _), some (c2, _) => if c1 = c ∧ c2 = c then G [a, b] S else .bad
  | _, _ => .bad
def rOwnS (C : Addr) (sp : Sp) (E : XK) : R2 := fun x y H Q => ∃ a dx fs b dy gs, x = .ref a ∧ y = .ref b ∧ H a = some (.ins C dx fs) ∧ H b = some (.ins C dy gs) ∧ sp [.ref a, .ref b] H Q E
theorem op_ownS {CX : CXT} {C : Addr} {sp : Sp} {op : Operator} (R : OwnSame X.K C op f) (F : FnOk X.prog X.w X.K X.mg X.base CX k f fd ps sp) (hr : Room k X.A) (hb : L2.Binds X.K fd ps []) (hx : Passes CX X E) : OpR X (binaryOp op) (rOwnS C sp E) := by
  intro pins s σ H x y v u Q I rx ry h
  obtain ⟨a, dx, fs, b, dy, gs, rfl, rfl, ha, hb', q⟩ := h
  cases (show v = Value.ref a from rx)
  cases (show u = Value.ref b from ry)
  obtain ⟨mA, O, _⟩ := ins_get I.hok ha
  obtain ⟨mB, O', _⟩ := ins_get I.hok hb'
  obtain ⟨od, J, _⟩ := O.look
  obtain ⟨od', J', _⟩ := O'.look
  obtain ⟨m, Fm⟩ := I.fr
  refine binop_K Fm I.mod.kin J J'.type R.first R.at_ R.fn ?_
  exact wpAny_mono (run_fn (us := [.ref a, .ref b]) (vs := [.ref a, .ref b]) F hr hb .nil hx I (.cons rfl (.cons rfl .nil)) q) (fun _ _ z => back_ep z) fun _ _ z => z
theorem o_ownS {op : Operator} (R : OwnSame X.K (w.cm c) op f) (F : FnOk X.prog X.w X.K X.mg X.base (L2.CX X.prog X.w) k f fd ps (spM w 2 G)) (ar : Ar 2 G) (hr : Room k X.A) (hb : L2.Binds X.K fd ps []) (hx : Passes (L2.CX X.prog X.w) X E) : Op8 X w E op (dOwnS c G) := by
  refine ⟨_, op_ownS R F hr hb hx, fun z a b x y Q g ra rb o => ?_⟩
  unfold dOwnS at o
  split at o
  · rename_i h1 h2
    split at o
    · rename_i h
      obtain ⟨rfl, rfl⟩ := h
      obtain ⟨p, dx, us, rfl, hH, rf⟩ := asI_at g ra h1
      obtain ⟨p', dx', us', rfl, hH', rf'⟩ := asI_at g rb h2
      exact ⟨p, dx, us, p', dx', us', rfl, rfl, hH, hH', sp_of ar g (RepL.cons ra (RepL.cons rb RepL.nil)) o⟩
    · exact o.elim
  · exact o.elim
/-! called -/
/-- of the class c -/
def isC (c : Nat) (S : Store) (d : D) : Bool := match asI S d with
  | some (c', _) => c' == c
  | none => false
theorem isC_at {z : Sit} {d : D} {v : V} (g : Good w z) (r : Rep w z d v) (h : isC c z.S d = true) : ∃ a dx us, v = .ref a ∧ z.H a = some (.ins (w.cm c) dx us) := by
  unfold isC at h
  split at h
  · rename_i h1
    cases (beq_iff_eq.mp h)
    obtain ⟨a, dx, us, e, hH, _⟩ := asI_at g r h1
    exact ⟨a, dx, us, e, hH⟩
  · cases h
def fCallO (c : Nat) (G : List D → M D) (fo : Env8 → M D) (fs : Env8 → M (List D)) : Env8 → M D := fun env => (fo env).bnd fun o S => if isC c S o = true then ((fs env).bnd fun ds S' => if isC c S' o = true then G (o :: ds) S' else .bad) S else .bad
theorem pm_callO (R : StX.CallO X.K (w.cm c) f) (F : FnOk X.prog X.w X.K X.mg X.base (L2.CX X.prog X.w) k f fd ps (spM w n G)) (ar : Ar n G) (hr : Room k X.A) (hb : L2.Binds X.K fd ps []) (hx : Passes (L2.CX X.prog X.w) X E) (A : PM X w E o fo) (B : PMA X w E (e :: es) fs)
    (ht : eval (.Call o (e :: es) [] pos) X.env = (do callWith pos (← eval o X.env) [] (backTo pos (starEach (e :: es) X.env)) (backToKw pos (keywordEach [] X.env))) := by rfl)
    (he : starEach (e :: es) X.env = (false, eval e X.env) :: starEach es X.env := by rfl) (hpl : (backTo pos (starEach es X.env)).any (·.1) = false := by rfl) : PM X w E (.Call o (e :: es) [] pos) (fCallO c G fo fs) := by
  refine (StX.pe_callO A R (F.raw hb .nil) hr hx B ht he hpl).wk fun σ H Q ⟨env, z, eH, G0, re, o⟩ => ?_
  refine ⟨env, z, eH, G0, re, (Out.bnd o).imp fun d z1 x1 g1 o1 v rv => ?_⟩
  split at o1
  · rename_i h0
    obtain ⟨a, _, _, rfl, _⟩ := isC_at g1 rv h0
    refine ⟨a, rfl, env, z1, rfl, g1, re.mono x1.vx, (Out.bnd o1).imp fun ds z2 x2 g2 o3 vs rvs => ?_⟩
    split at o3
    · rename_i h1
      obtain ⟨a', dx, us, ea, hH⟩ := isC_at g2 (rv.mono x2.vx) h1
      cases ea
      refine ⟨.inr ⟨dx, us, hH⟩, ?_⟩
      simp only [List.append_nil]
      exact sp_of ar g2 (RepL.cons (rv.mono x2.vx) rvs) o3
    · exact o3.elim
  · exact o1.elim
/-! o.m(k = v, ..) -/
def fMethK (m : Str) (c q : Nat) (is : List Nat) (G : List D → M D) (fo : Env8 → M D) (fk : Env8 → M (List D)) : Env8 → M D := fun env => (fo env).bnd fun o S => match asI S o with
  | some (c', fs) => if c' = c ∧ lookF m fs = none then ((fk env).bnd fun ds => if ds.length = q then G (perm is [o] ds) else M.bad) S else .bad
  | none => .bad
theorem pm_methK0 {m : Str} {q : Nat} {is : List Nat} {ks : List Str} {kws : List Keyword} {fk : Env8 → M (List D)} {pl : Sem Bool} (h1 : Cls X.K (w.cm c)) (h2 : Meth X.K (w.cm c) m f) (F : FnOk X.prog X.w X.K X.mg X.base (L2.CX X.prog X.w) k f fd ps (spM w n G)) (ar : Ar n G) (hr : Room k X.A) (hb : KBn X.K fd ps 1 ks (perm is) (perm is)) (hx : Passes (L2.CX X.prog X.w) X E) (A : PM X w E o fo) (B : PMK X w E kws fk)
    (hall : (backToKw pos (keywordEach kws X.env)).all (·.1.isSome) = true := by rfl) (hks : (backToKw pos (keywordEach kws X.env)).filterMap (·.1) = ks := by rfl)
    (hpl : ((backTo pos (starEach [] X.env)).any (·.1) || (backToKw pos (keywordEach kws X.env)).any (·.1.isNone)) = false := by rfl)
    (ht : eval (.Call (.Attribute o m apos) [] kws pos) X.env = (do
      let ov ← eval o X.env
      standAt apos.atName
      let (f, first) ← holding [ov] (getMethod ov m pl)
      callWith pos f first (backTo pos (starEach [] X.env)) (backToKw pos (keywordEach kws X.env))) := by rfl) (hq : q = ks.length := by rfl) : PM X w E (.Call (.Attribute o m apos) [] kws pos) (fMethK m c q is G fo fk) := by
  subst hq
  refine (pe_methK0 (pl := pl) A h1 h2 F hr hb hx B hall hks hpl ht).wk fun σ H Q ⟨env, z, eH, G0, re, o⟩ => ?_
  refine ⟨env, z, eH, G0, re, (Out.bnd o).imp fun d z1 x1 g1 o1 v rv => ?_⟩
  split at o1
  · rename_i c' fs hI
    split at o1
    · rename_i h
      obtain ⟨rfl, hl⟩ := h
      obtain ⟨a, dx, us, rfl, hH, rf⟩ := asI_at g1 rv hI
      refine ⟨a, dx, us, rfl, hH, rf.lookN hl, env, z1, rfl, g1, re.mono x1.vx, (Out.bnd o1).imp fun ds z2 x2 g2 o2 vs rvs => ?_⟩
      split at o2
      · rename_i hlen
        exact ⟨by rw [← rvs.length]; exact hlen, sp_of ar g2 (RepL.append (RepL.cons (rv.mono x2.vx) RepL.nil) (RepL.pick rvs is)) o2⟩
      · exact o2.elim
    · exact o1.elim
  · exact o1.elim
/-! f(.., k = v) -/
theorem pm_callN {m q : Nat} {x : Str} {p : Pos} {is : List Nat} {ks : List Str} {kws : List Keyword} {fk : Env8 → M (List D)} (F : FnOk X.prog X.w X.K X.mg X.base (L2.CX X.prog X.w) k f fd ps (spM w n G)) (ar : Ar n G) (hr : Room k X.A) (hg : Gl X x) (hm : X.mg x = some (.ref f)) (hk : PySem.W.keepIn X.K (.ref f) = true) (hb : KBn X.K fd ps q ks (perm is) (perm is)) (hx : Passes (L2.CX X.prog X.w) X E) (A : PMA X w E (e :: es) fs) (B : PMK X w E kws fk)
    (hall : (backToKw pos (keywordEach kws X.env)).all (·.1.isSome) = true := by rfl) (hks : (backToKw pos (keywordEach kws X.env)).filterMap (·.1) = ks := by rfl) (hdb : (x == ("__debug__" : Str)) = false := by decide) (he : starEach (e :: es) X.env = (false, eval e X.env) :: starEach es X.env := by rfl)
    (hpl : ((backTo pos (starEach (e :: es) X.env)).any (·.1) || (backToKw pos (keywordEach kws X.env)).any (·.1.isNone)) = false := by rfl) (hmm : m = ks.length := by rfl) : PM X w E (.Call (.Name x p) (e :: es) kws pos) (f1 G (fKw q m is fs fk)) := by
  subst hmm
  exact (pe_callN F hr hg hm hk hb hx A B hall hks hdb he hpl).wk fun σ H Q ⟨env, z, eH, G0, re, o⟩ => ⟨env, z, eH, G0, re, (Out.bnd (Out.bnd o)).imp fun as z1 x1 g1 o1 xs rx => ⟨env, z1, rfl, g1, re.mono x1.vx, (Out.bnd o1).imp fun bs z2 x2 g2 o2 ys ry => by
    split at o2
    · rename_i h
      have o3 := Out.ret o2 g2 rfl
      have rx := rx.mono x2.vx
      exact ⟨by rw [← rx.length]; exact h.1, by rw [← ry.length]; exact h.2, sp_of ar g2 (rx.append (RepL.pick ry is)) o3⟩
    · exact o2.elim⟩⟩
/-! len(o) -/
def dLenO (c : Nat) (G : List D → M D) (as : List D) : M D := fun S => match as with
  | [a] => if isC c S a = true then (G [a]).bnd (fun r => match r with | .int n => if 0 ≤ n ∧ n < 2 ^ 62 then M.ret (.int n) else M.bad | _ => M.bad) S else .bad
  | _ => .bad
def rLenO (C : Addr) (sp : Sp) (E : XK) : List V → Hp → VK → Prop := fun xs H Q => ∃ a dx fs, xs = [.ref a] ∧ H a = some (.ins C dx fs) ∧ sp [.ref a] H (fun v H' => ∃ n : Int, v = .int n ∧ 0 ≤ n ∧ n < 2 ^ 62 ∧ Q (.int n) H') E
theorem call_lenO {CX : CXT} {C : Addr} {sp : Sp} (R : Meth X.K C "__len__" f) (F : FnOk X.prog X.w X.K X.mg X.base CX k f fd ps sp) (hr : Room (k + 1) X.A) (hb : L2.Binds X.K fd ps []) (hx : Passes CX X E) : CallR X (.builtin "len") (rLenO C sp E) := by
  intro pins s σ H xs us Q I r h
  obtain ⟨a, dx, fs, rfl, ea, q⟩ := h
  obtain ⟨u, rfl, ru⟩ := vals1 r
  cases (show u = Value.ref a from ru)
  obtain ⟨mA, O, _⟩ := ins_get I.hok ea
  obtain ⟨od, J, _⟩ := O.look
  obtain ⟨m, Fm⟩ := I.fr
  refine len_K Fm I.mod.kin J R.at_ R.fn ?_
  refine wpAny_mono (run_in1 (us := [.ref a]) (vs := [.ref a]) F hr hb hx I (.cons rfl .nil) q) (fun v s' hv => ?_) fun _ _ z => z
  obtain ⟨v', H', I', r', n, rfl, h0, h1, q'⟩ := hv
  obtain ⟨t, rfl⟩ := r'
  exact ⟨⟨h0, by omega⟩, .int n, H', I'.tok _, ⟨_, rfl⟩, q'⟩
theorem b_lenO (R : Meth X.K (w.cm c) "__len__" f) (F : FnOk X.prog X.w X.K X.mg X.base (L2.CX X.prog X.w) k f fd ps (spM w 1 G)) (ar : Ar 1 G) (hr : Room (k + 1) X.A) (hb : L2.Binds X.K fd ps []) (hx : Passes (L2.CX X.prog X.w) X E) : Bi8 X w E (.builtin "len") (dLenO c G) := by
  refine ⟨_, call_lenO R F hr hb hx, fun z as xs Q g rs o => ?_⟩
  unfold dLenO at o
  split at o
  · rw [RepL] at rs
    obtain ⟨v, r, rfl, rv, rr⟩ := rs
    rw [RepL] at rr
    subst rr
    split at o
    · rename_i h
      obtain ⟨a, dx, us, rfl, hH⟩ := isC_at g rv h
      refine ⟨a, dx, us, rfl, hH, sp_of ar g (RepL.cons rv RepL.nil) ((Out.bnd o).imp fun d z1 x1 g1 o1 v rv => ?_)⟩
      split at o1
      · split at o1
        · rename_i h2
          rw [Rep] at rv
          exact ⟨_, rv, h2.1, h2.2, o1.v g1 rep_int⟩
        · exact o1.elim
      · exact o1.elim
    · exact o.elim
  · exact o.elim
/-! if o -/
def dTruO (c : Nat) (G : List D → M D) (a : D) : M Bool := fun S => if isC c S a = true then (G [a]).bnd dBool S else .bad
theorem pmt_truO (R : Meth X.K (w.cm c) "__bool__" f) (F : FnOk X.prog X.w X.K X.mg X.base (L2.CX X.prog X.w) k f fd ps (spM w 1 G)) (ar : Ar 1 G) (hr : Room k X.A) (hb : L2.Binds X.K fd ps []) (hx : Passes (L2.CX X.prog X.w) X E) (A : PM X w E a fa)
    (he : ∀ whole, isTrue a X.env whole = (do let v ← whole; standAt a.pos; holding [v] (truthy v)) := by intro _; rfl) : PMT X w E a (f1 (dTruO c G) fa) := by
  refine ⟨fun pins s σ H Q I h => ?_⟩
  obtain ⟨env, z, rfl, G0, re, o⟩ := h
  refine isTrue_plain (thn (A.run pins s σ z.H (fun x H1 => ∃ (d : D) (z1 : Sit), z1.H = H1 ∧ Good w z1 ∧ Rep w z1 d x ∧ Out w z1 (dTruO c G d z1.S) (fun b z' => Q b z'.H) E) I ⟨env, z, rfl, G0, re, (Out.bnd o).imp fun d z1 x1 g1 o1 v rv => ⟨d, z1, rfl, g1, rv, o1⟩⟩) fun v s1 ⟨x, H1, I1, r1, d, z1, eH, g1, rx, o1⟩ => ?_) (he _)
  subst eH
  unfold dTruO at o1
  split at o1
  · rename_i h
    obtain ⟨a, dx, us, rfl, hH⟩ := isC_at g1 rx h
    cases (show v = Value.ref a from r1)
    obtain ⟨mA, O, _⟩ := ins_get I1.hok hH
    obtain ⟨od, J, _⟩ := O.look
    obtain ⟨m, Fm⟩ := I1.fr
    refine truthy_K Fm I1.mod.kin J R.at_ R.fn ?_
    refine wpAny_mono (run_fn (us := [.ref a]) (vs := [.ref a]) (Q := fun v H' => ∃ b, v = .bl b ∧ Q b H') F hr hb .nil hx I1 (.cons rfl .nil) (sp_of ar g1 (RepL.cons rx RepL.nil) ((Out.bnd o1).imp fun d z2 x2 g2 o2 v rv => ?_))) (fun v s' hv => ?_) fun _ _ z => z
    · cases d with
      | bl b => rw [Rep] at rv; exact ⟨b, rv, Out.ret o2 g2 rfl⟩
      | _ => exact o2.elim
    · obtain ⟨v', H', I', r', b, rfl, q'⟩ := hv
      cases (show v = Value.bool b from r')
      exact ⟨H', I', q'⟩
  · exact o1.elim
/-! o[i] -/
def dIxO (c : Nat) (G : List D → M D) (a b : D) : M D := fun S => if isC c S a = true then G [a, b] S else .bad
theorem pm_ixO (R : Meth X.K (w.cm c) "__getitem__" f) (hfn : PySem.W.fnIn X.K f = true) (F : FnOk X.prog X.w X.K X.mg X.base (L2.CX X.prog X.w) k f fd ps (spM w 2 G)) (ar : Ar 2 G) (hr : Room (k + 1) X.A) (hb : L2.Binds X.K fd ps []) (hx : Passes (L2.CX X.prog X.w) X E) (A : PM X w E a fa) (B : PM X w E b fb) (hs : PlainIx b)
    (hsl : ∀ x i, subscripted b true (.ref x) i = runValue (.builtin "lifetime.subscript" ⟨[.ref x, i], []⟩) := by intro _ _; with_unfolding_all rfl) : PM X w E (.Subscript a b pos) (f2 (dIxO c G) fa fb) := by
  have one : PE X (.Subscript a b pos) (tOp (fun x y H Q => ∃ p dx fs, x = .ref p ∧ H p = some (.ins (w.cm c) dx fs) ∧ spM w 2 G [.ref p, y] H Q E) (tM w E fa) (tM w E fb)) := by
    refine ⟨fun pins s σ H Q I h => ?_⟩
    refine Subscript_ (binT A B I h fun v u s2 x y H2 I2 rx ry q => ?_)
    obtain ⟨p, dx, fs, rfl, ea, q⟩ := q
    cases (show v = Value.ref p from rx)
    obtain ⟨mA, O, _⟩ := ins_get I2.hok ea
    obtain ⟨od, J, _⟩ := O.look
    obtain ⟨m, Fm⟩ := I2.fr
    refine sub_K Fm I2.mod.kin J R.at_ hfn R.fn ?_ (hsl p u)
    exact run_in1 (us := [.ref p, u]) (vs := [.ref p, y]) F hr hb hx I2 (.cons rfl (.cons ry .nil)) q
  refine pm_2 one fun z d e x y Q g rd re o => ?_
  unfold dIxO at o
  split at o
  · rename_i h
    obtain ⟨p, dx, us, rfl, hH⟩ := isC_at g rd h
    exact ⟨p, dx, us, rfl, hH, sp_of ar g (RepL.cons rd (RepL.cons re RepL.nil)) o⟩
  · exact o.elim
/-! o.f, a property -/
def dProp (c : Nat) (G : List D → M D) (a : D) : M D := fun S => if isC c S a = true then noEr (G [a]) S else .bad
theorem pm_prop {pp : Addr} {nm : Str} (h1 : Cls X.K (w.cm c)) (hp : PropOf X.K (w.cm c) nm pp f) (F : FnOk X.prog X.w X.K X.mg X.base (L2.CX X.prog X.w) k f fd ps (spM w 1 G)) (ar : Ar 1 G) (hr : Room (k + 1) X.A) (hb : L2.Binds X.K fd ps []) (A : PM X w E e fo)
    (hab : attributeBase e nm X.env (eval e X.env) = eval e X.env)   : PM X w E (.Attribute e nm pos) (f1 (dProp c G) fo) := by
  refine (pe_prop (E := E0) A h1 hp F hr hb .nil pass0E hab).wk fun σ H Q ⟨env, z, eH, G0, re, o⟩ => ?_
  refine ⟨env, z, eH, G0, re, (Out.bnd o).imp fun d z1 x1 g1 o1 v rv => ?_⟩
  unfold dProp at o1
  split at o1
  · rename_i h
    obtain ⟨a, dx, us, rfl, hH⟩ := isC_at g1 rv h
    exact ⟨a, dx, us, rfl, hH, sp_of ar g1 (RepL.cons rv RepL.nil) (Out.ofNoEr o1)⟩
  · exact o1.elim
end
end Ol

/-! for x in o, o an own thing with  def __iter__(self): return iter(e) -/
namespace Ol
open PySem PySem.W PySem.Calls PySem.Spec PyProof.Rows L2
/-- at it a new iterator over the tuple at l -/
def ItT (l it : Addr) : HO := .ext fun h => h.get? it = some { cls := .type "tuple_iterator", data := .fields #[.ref l, .int 0 0] }
theorem itT_ok {P : Program} {w : World} {H : Hp} {h : Heap} {l it : Addr} (e : h.get? it = some { cls := .type "tuple_iterator", data := .fields #[.ref l, .int 0 0] }) : ObjOk P w H h it (ItT l it) := ⟨e, ⟨_, e⟩, fun h1 h2 q k => k _ q⟩
/-- a new iterator over what stands at l -/
def IterD (d : D) (l it : Addr) (o : HO) : Prop := match d with
  | .lst _ => o = ItO l it 0
  | .tup _ => o = ItT l it
  | _ => False
def rIterB (K : PySem.W.Frag) (n : Nat) : List V → Hp → VK → Prop := fun xs H Q => ∃ l : Addr, xs = [.ref l] ∧ (((∃ zs, SqL K H l zs) ∧ ∀ it, H it = none → n ≤ it → Q (.ref it) (upd H it (ItO l it 0))) ∨ ((∃ zs, SqT K H l zs) ∧ ∀ it, H it = none → n ≤ it → Q (.ref it) (upd H it (ItT l it))))
section
variable {prog : Program} {wo : World} {A : Around} {Er : Value → Shared → Prop} {s : Shared} {l : Addr} {items : Array Value}
theorem call_iterTup {Q : Value → Shared → Prop} (hl : s.heap.IsTuple l items) (h : Q (.ref s.heap.objs.size) { s with heap := s.heap.push { cls := .type "tuple_iterator", data := .fields #[.ref l, .int 0 0] } }) : wpAny (model prog wo) A (call (.builtin "iter") [.ref l]) Q Er s := by
  refine Calls.call_function_entry (by decide +kernel) (by decide +kernel) PySem.W.kdk_entry_iter (PySem.W.kdk_args_iter _) ?_
  unfold Builtin.«iter»
  refine wpAny_bind (m := someArgs "iter" 1 2 _) (wpAny_of_eq (a := [Value.ref l]) (by first | rfl | kernel_rfl!) ?_)
  show wpAny _ _ (pyIter (.ref l) >>= fun r => ret r) _ _ _
  exact wpAny_bind (wpAny_pyIter_tuple hl (wpAny_pure ⟨_, rfl, h⟩))
end
section
variable {X : Cx} {w : Wd} {E : XK} {k c : Nat} {f : Addr} {fd : FuncData} {ps : List Str} {e o : Expr} {fo fe : Env8 → M D} {fs : Env8 → M (List D)} {pos apos : Pos}
theorem call_iterB : CallR X (.builtin "iter") (rIterB X.K X.s_0.heap.objs.size) := by
  intro pins s σ H xs us Q I r h
  obtain ⟨l, rfl, hq⟩ := h
  obtain rfl := Vals.ref1 r
  rcases hq with ⟨⟨zs, hq⟩, q⟩ | ⟨⟨zs, hq⟩, q⟩
  · obtain ⟨its, rv, pl, hz⟩ := I.list hq
    refine GNX.call_iter pl.isList ?_
    exact ⟨.ref s.heap.objs.size, _, I.laid (t' := s.toks) (fun b u e => Heap.get?_push_of_some _ e) (Nat.le_refl _) (itO_ok (Heap.get?_push_size _ rfl)), rfl, q _ (I.hok.fresh (Nat.le_refl _)) I.sz⟩
  · obtain ⟨its, rv, pl, hz⟩ := I.tuple hq
    refine call_iterTup (show s.heap.IsTuple l its.toArray from pl) ?_
    exact ⟨.ref s.heap.objs.size, _, I.laid (t' := s.toks) (fun b u e => Heap.get?_push_of_some _ e) (Nat.le_refl _) (itT_ok (Heap.get?_push_size _ rfl)), rfl, q _ (I.hok.fresh (Nat.le_refl _)) I.sz⟩
/-- lists and tuples that are written no more -/
def seqD : D → Option (List D)
  | .lst ds => some ds
  | .tup ds => some ds
  | _ => none
/-- what __iter__ promises: an iterator over what F tells -/
def spIt (n : Nat) (w : Wd) (F : List D → M D) : Sp := fun vs H Q E => vs.length = 1 ∧ ∃ (ds : List D) (z : Sit), z.H = H ∧ Good w z ∧ RepL w z ds vs ∧ Out w z (F ds z.S) (fun d z' => ∀ l : Addr, Rep w z' d (.ref l) → ∀ it o, z'.H it = none → n ≤ it → IterD d l it o → Q (.ref it) (upd z'.H it o)) E
def runIt (m : Nat) (fs : Env8 → M (List D)) : List D → M D := fun ds => if ds.length = 1 then (fs (ds.map some ++ List.replicate (m - 1) none)).bnd fun es => match es with
  | [d] => if (seqD d).isSome = true then M.ret d else M.bad
  | _ => M.bad
  else M.bad
/-- the promise of an __iter__: what it makes is younger than the call -/
structure FnIt (P : Program) (wo : World) (w : Wd) (mg : Str → Option Value) (base : Heap) (k : Nat) (f : Addr) (fd : FuncData) (ps : List Str) (G : List D → M D) : Prop where
  len : ps.length = 1
  run : ∀ (A : Around) (outer : List Env) (s : Shared) (H : Hp) (args : Args) (us : List Value) (vs : List V) (Q : VK) (E : XK), Room k A → Env0 P wo w.K mg base A outer s H → BindsTo s fd args (ps.zip us) → Vals vs us → spIt s.heap.objs.size w G vs H Q E →
    codeAny (model P wo) A (.call (.ref f) args) (CR (L2.CX P wo) outer P wo H s Q E) s
theorem fn_okIt {P : Program} {wo : World} {mg : Str → Option Value} {base : Heap} {x qual : Str} {st : Stmt} {N : List Str} {p p1 p2 : Pos} (F : Fun w.K x qual st f fd) (S : FnScope N ps (defScope st)) (hb : defBody st = [.Return (some (.Call (.Name "iter" p) [e] [] p1)) p2]) (hl : ps.length = 1) (hN : 1 ≤ N.length) (hm : mg "iter" = none)
    (ha : ∀ (cdv : Value) (A : Around) (outer : List Env) (s : Shared) (H : Hp) (E : XK), Room k (A.deeper (envOfC qual (defScope st) s.heap.objs.size f cdv)) →
      Gl (cxOf (L2.CX P wo) P wo w.K mg base N qual (defScope st) f cdv A outer s H E) "iter" ∧ PMA (cxOf (L2.CX P wo) P wo w.K mg base N qual (defScope st) f cdv A outer s H E) w E [e] fs ∧ starEach [e] (cxOf (L2.CX P wo) P wo w.K mg base N qual (defScope st) f cdv A outer s H E).env = [(false, eval e (cxOf (L2.CX P wo) P wo w.K mg base N qual (defScope st) f cdv A outer s H E).env)]) :
    FnIt P wo w mg base (k + 1) f fd ps (runIt N.length fs) := by
  obtain ⟨oc, od, kV, doc, pm, an, cdv, ct, osl, rfl, lk, hcd⟩ := F.ex
  refine ⟨hl, fun A outer s H args us vs Q E hr e0 hbd r h => ?_⟩
  have hlv : vs.length = ps.length := h.1.trans hl.symm
  have inK : w.K.In s.heap := e0.mod.kin.keeps fun b o e => (e0.bs b o e).1
  have nol : s.heap.NoLimit := e0.mod.nolimit.keeps fun b o e => (e0.bs b o e).1
  have knd : ∀ y ∈ ps.zip us, (defScope st).names.lookup y.1 = some .local ∨ ((defScope st).names.lookup y.1 = some .cell ∧ ((cellsFrom (s.heap.objs.size + 1) (defScope st).names []).lookup y.1).isSome = true) := fun ⟨nm, v⟩ hy =>
    (S.par nm (List.of_mem_zip hy).1).elim .inl fun q => .inr ⟨q, PySem.W.cellsFrom_some _ _ _ (.inl q)⟩
  refine codeAny_call_function hr.depth (inK _ _ lk) rfl S.co S.gen rfl (PySem.W.codeRec_of inK hcd) (hbd _ _ _ _ (wpAny_newFunctionEnv_cells S.kind knd fun env he s1 x => ?_))
  subst he
  refine ⟨nol.keeps x.toInCall.keep, codeAny_func ?_⟩
  obtain ⟨hg, hA, hs⟩ := ha cdv A outer s H E (hr.deeper _)
  have I := inv_start (CX := L2.CX P wo) (E := E) (N := N) S hr.hd e0 hlv r x
  have body : PSs (cxOf (L2.CX P wo) P wo w.K mg base N qual (defScope st) f cdv A outer s H E) (defBody st) (tRet (tCB (rIterB w.K s.heap.objs.size) (tMA w E fs))) := by
    rw [hb]
    exact pss_one (ps_ret (pe_callB call_iterB hg hm (by decide +kernel) hA (by decide) (by decide) hs (by rfl)))
  have go : tRet (tCB (rIterB w.K s.heap.objs.size) (tMA w E fs)) { nx := fun _ H' => Q .non H', rt := Q } (L2.start N vs) H := by
    obtain ⟨hl1, ds, z, eH, G, r, o⟩ := h
    unfold runIt at o
    split at o
    · rename_i hd
      have re := renv_start (N := N) r (by omega)
      rw [hd] at re
      refine ⟨_, z, eH, G, re, (Out.bnd o).imp fun es z1 x1 g1 o1 vs1 rv => ?_⟩
      split at o1
      · rw [RepL] at rv
        obtain ⟨v, r', rfl, rv, rr⟩ := rv
        rw [RepL] at rr
        subst rr
        split at o1
        · rename_i h
          have fin := Out.ret o1 g1 rfl
          rename_i d
          cases d with
          | lst xs =>
            have rv0 := rv
            rw [Rep] at rv
            obtain ⟨a, ws, rfl, _, h1, _⟩ := rv
            exact ⟨a, rfl, .inl ⟨⟨ws, .inl (.inl h1)⟩, fun it hn hi => fin a rv0 it _ hn hi rfl⟩⟩
          | tup xs =>
            obtain ⟨a, ws, rfl, h1, _⟩ := asT_at rv rfl
            exact ⟨a, rfl, .inr ⟨⟨ws, h1⟩, fun it hn hi => fin a rv it _ hn hi rfl⟩⟩
          | _ => cases h
        · exact o1.elim
      · exact o1.elim
    · exact o.elim
  refine wpAny_mono (body.run [] s1 (L2.start N vs) H _ I go) (fun fl s' hq => ?_) fun e s' hq => hq
  have land : ∀ {σ' : L2.St} {H' : Hp} {v : V} {u : Value}, Inv (cxOf (L2.CX P wo) P wo w.K mg base N qual (defScope st) f cdv A outer s H E) [] σ' H' s' → RelV v u → Q v H' → CE outer P wo H s Q u s' :=
    fun {σ' H' v u} J rv q => ⟨v, H', J.os, J.bare, J.base, J.hok, rv, q⟩
  cases fl with
  | ret u => obtain ⟨v, σ', H', J, rv, q⟩ := hq; exact land J rv q
  | next => obtain ⟨σ', H', J, q⟩ := hq; exact land (v := V.non) (u := Value.none) J rfl q
  | brk => obtain ⟨_, _, _, q⟩ := hq; exact False.elim q
  | cont => obtain ⟨_, _, _, q⟩ := hq; exact False.elim q
/-- for tg in o -/
def fIterO (c : Nat) (G : List D → M D) (d : D) : M (List D) := fun S => if isC c S d = true then (G [d]).bnd (fun d' => match seqD d' with | some ds => M.ret ds | none => M.bad) S else .bad
theorem pmi_iterO {tg : Expr} {G : List D → M D} (hK : X.K = w.K) (R : Meth X.K (w.cm c) "__iter__" f) (Fi : FnIt X.prog X.w w X.mg X.base k f fd ps G) (hr : Room k X.A) (hb : L2.Binds X.K fd ps []) (hx : Passes (L2.CX X.prog X.w) X E) (A : PM X w E o fo) : PMI X w E tg o (f1 (fIterO c G) fo) := by
  refine ⟨fun pins s σ H Rr I h => ?_⟩
  obtain ⟨env, z, rfl, G0, re, oo⟩ := h
  refine thn (A.run pins s σ z.H (fun x H1 => ∃ (d : D) (z1 : Sit), z1.H = H1 ∧ Good w z1 ∧ Rep w z1 d x ∧ Out w z1 (fIterO c G d z1.S) (fun ds z' => ∀ J, Yl w J z' ds → Rr J z'.H) E) I ⟨env, z, rfl, G0, re, (Out.bnd oo).imp fun d z1 x1 g1 o1 v rv => ⟨d, z1, rfl, g1, rv, o1⟩⟩) fun v s1 ⟨x, H1, I1, r1, d, z1, eH, g1, rx, o1⟩ => ?_
  subst eH
  unfold fIterO at o1
  split at o1
  · rename_i h
    obtain ⟨a, dx, us, rfl, hH⟩ := isC_at g1 rx h
    cases (show v = Value.ref a from r1)
    obtain ⟨mA, O, _⟩ := ins_get I1.hok hH
    obtain ⟨od, J, _⟩ := O.look
    obtain ⟨m, Fm⟩ := I1.fr
    refine owit_iter Fm I1.mod.kin J R.at_ R.fn ?_
    let Q' : VK := fun v H' => ∃ (it l : Addr) (ob : HO) (d' : D) (ds : List D) (z2 : Sit), v = .ref it ∧ z2.H it = none ∧ s1.heap.objs.size ≤ it ∧ H' = upd z2.H it ob ∧ IterD d' l it ob ∧ Good w z2 ∧ Rep w z2 d' (.ref l) ∧ seqD d' = some ds ∧ ∀ J, Yl w J z2 ds → Rr J z2.H
    have sp : spIt s1.heap.objs.size w G [.ref a] z1.H Q' E := by
      refine ⟨rfl, [d], z1, rfl, g1, RepL.cons rx RepL.nil, (Out.bnd o1).imp fun d' z2 x2 g2 o2 l rl it ob hn hb hi => ?_⟩
      cases hds : seqD d' with
      | none => rw [hds] at o2; exact o2.elim
      | some ds =>
        rw [hds] at o2
        exact ⟨it, l, ob, d', ds, z2, rfl, hn, hb, rfl, hi, g2, rl, hds, Out.ret o2 g2 rfl⟩
    have hb' := hb s1 [.ref a] I1.kIn (by rw [List.append_nil]; exact Fi.len.symm)
    rw [List.append_nil] at hb'
    have e0 := I1.env0
    rw [hK] at e0
    refine wpAny_call (codeAny_mono (Fi.run X.A X.stack s1 z1.H ⟨[.ref a], []⟩ [.ref a] [.ref a] Q' E hr e0 hb' (.cons rfl .nil) sp) fun r s' hq => ?_)
    cases r with
    | error e => exact hx pins σ z1.H s1 e s' I1 hq
    | ok fl =>
      cases fl with
      | ret u =>
        obtain ⟨v', H', I2, r', it, l, ob, d', ds, z2, rfl, hn, big, rfl, hi, g2, rl, hds, fin⟩ := I1.after hq
        cases (show u = Value.ref it from r')
        have sz : X.s_0.heap.objs.size ≤ it := Nat.le_trans I1.sz big
        have drop : ∀ φ, ob = .ext φ → Inv X pins σ z2.H s' ∧ FpOk X pins z2.H it := fun φ e => by
          have h1 : upd z2.H it ob it = some (.ext φ) := by rw [upd_same, e]
          have q := ItX.inv_drop I2 h1
          have q2 := ItX.inv_fp I2 h1 sz
          rw [ItX.dropH_upd hn] at q q2
          exact ⟨q, q2⟩
        cases d' with
        | lst xs =>
          cases hds
          cases (show ob = ItO l it 0 from hi)
          obtain ⟨I3, fp⟩ := drop _ rfl
          have eo : s'.heap.get? it = some (GNX.itObj l 0) := (I2.hok it _ upd_same).1
          have st : s'.heap.IsListIter it l 0 := ⟨_, eo, rfl, rfl⟩
          unfold OwitIt
          refine wpAny_specialOf (T := "list_iterator") (name := Str.ofString "__next__") ⟨_, eo, rfl⟩ slot_listiter_next.lookup ?_
          exact ⟨it, [it], _, _, z2.H, rfl, I3, turn_list (K := X.K) l it, st, fun b hb => by rw [List.mem_singleton.mp hb]; exact fp, by rw [hK]; exact fin _ (yl_list rl)⟩
        | tup xs =>
          cases hds
          cases (show ob = ItT l it from hi)
          obtain ⟨I3, fp⟩ := drop _ rfl
          have eo : s'.heap.get? it = some { cls := .type "tuple_iterator", data := .fields #[.ref l, .int 0 0] } := (I2.hok it _ upd_same).1
          have st : s'.heap.IsTupleIter it l 0 := ⟨_, eo, rfl, rfl⟩
          unfold OwitIt
          refine wpAny_specialOf (T := "tuple_iterator") (name := Str.ofString "__next__") ⟨_, eo, rfl⟩ F.slot_tuple_iterator_next.lookup ?_
          exact ⟨it, [it], _, _, z2.H, rfl, I3, turn_tuple (K := X.K) l it, st, fun b hb => by rw [List.mem_singleton.mp hb]; exact fp, by rw [hK]; exact fin _ (yl_tup rl)⟩
        | _ => cases hds
      | next => exact False.elim hq
      | brk => exact False.elim hq
      | cont => exact False.elim hq
  · exact o1.elim
end
end Ol

/-! own op any built-in; lists: * int, +; max, min, sorted of ints -/
namespace Ol
open PySem PySem.Spec PyProof.Rows L2
section
variable {X : Cx} {w : Wd} {E : XK} {k c n : Nat} {f : Addr} {fd : FuncData} {ps : List Str} {G : List D → M D} {e o a b : Expr} {fa fb : Env8 → M D} {pos : Pos}
/-- an own thing at the left, a thing of one of some kinds at the right -/
def dOwnLs (c : Nat) (ts : List String) (G : List D → M D) (a b : D) : M D := fun S => match asI S a, tagOf S b with
  | some (c', _), some (.ty T) => if c' = c ∧ T ∈ ts then G [a, b] S else .bad
  | _, _ => .bad
def OwnOfs (K : PySem.W.Frag) (C : Addr) (op : Operator) (ts : List String) (f : Addr) : Prop := ∀ T ∈ ts, OwnOf K C op T f
theorem ownofs_nil {K : PySem.W.Frag} {C : Addr} {op : Operator} : OwnOfs K C op [] f := fun _ h => by cases h
theorem ownofs_cons {K : PySem.W.Frag} {C : Addr} {op : Operator} {T : String} {ts : List String} (h : OwnOf K C op T f) (r : OwnOfs K C op ts f) : OwnOfs K C op (T :: ts) f := fun d q => by
  rcases List.mem_cons.mp q with rfl | q
  · exact h
  · exact r d q
theorem op_ex {ι : Type} {g : Value → Value → Sem Value} {r : ι → R2} {p : ι → Prop} (h : ∀ i, p i → OpR X g (r i)) : OpR X g (fun x y H Q => ∃ i, p i ∧ r i x y H Q) := by
  intro pins s σ H x y v u Q I rx ry z
  obtain ⟨i, hp, z⟩ := z
  exact h i hp pins s σ H x y v u Q I rx ry z
theorem o_ownLs {op : Operator} {ts : List String} (hK : X.K = w.K) (R : OwnOfs X.K (w.cm c) op ts f) (F : FnOk X.prog X.w X.K X.mg X.base (L2.CX X.prog X.w) k f fd ps (spM w 2 G)) (ar : Ar 2 G) (hr : Room k X.A) (hb : L2.Binds X.K fd ps []) (hx : Passes (L2.CX X.prog X.w) X E) : Op8 X w E op (dOwnLs c ts G) := by
  refine ⟨_, op_ex (ι := String) (p := fun T => T ∈ ts) (r := fun T => rOwnL X.K (w.cm c) T (spM w 2 G) E) fun T hT => op_ownL (R T hT) F hr hb hx, fun z a b x y Q g ra rb o => ?_⟩
  unfold dOwnLs at o
  split at o
  · rename_i h1 h2
    split at o
    · rename_i h
      obtain ⟨rfl, hT⟩ := h
      obtain ⟨p, dx, us, rfl, hH, rf⟩ := asI_at g ra h1
      refine ⟨_, hT, p, dx, us, rfl, hH, ?_, sp_of ar g (RepL.cons ra (RepL.cons rb RepL.nil)) o⟩
      rw [hK]
      exact tag_at (cs := []) iso_nil g rb h2 rfl
    · exact o.elim
  · exact o.elim
/-- plain operators as Op8 -/
theorem op8_of {op : Operator} {r : R2} {g : D → D → M D} (h : OpR X (binaryOp op) r) (d : Does2 w E r g) : Op8 X w E op g := ⟨r, h, d⟩
/-- bad as an operator -/
theorem o_bad {op : Operator} : Op8 X w E op (fun _ _ => M.bad) := ⟨fun _ _ _ _ => False, fun _ _ _ _ _ _ _ _ _ _ _ _ h => h.elim, fun _ _ _ _ _ _ _ _ _ o => o.elim⟩
end
end Ol

/-! plain operators as Op8; lists times a number; max, min, sorted of a list of ints; xs[::-1] -/
namespace Ol
open PySem PySem.Spec PyProof.Rows L2
section
variable {X : Cx} {w : Wd} {E : XK} {e a b : Expr} {fa fb fe : Env8 → M D} {pos : Pos}
theorem o_sub : Op8 X w E .Sub dSub := ⟨_, op_sub, fun z a b x y Q g ra rb o => by
  unfold dSub at o
  split at o
  · rw [Rep] at ra rb
    exact ⟨_, _, ra, rb, o.v g rep_int⟩
  · exact o.elim⟩
theorem o_mul0 : Op8 X w E .Mult dMul := ⟨_, opr_or op_mul op_mulW, fun z a b x y Q g ra rb o => by
  unfold dMul at o
  split at o
  · rw [Rep] at ra rb
    split at o
    · rename_i h
      rcases h with h | h | h
      · exact .inl ⟨_, _, ra, rb, .inl ⟨by omega, by omega⟩, o.v g rep_int⟩
      · exact .inl ⟨_, _, ra, rb, .inr ⟨by omega, by omega⟩, o.v g rep_int⟩
      · exact .inr ⟨_, _, ra, rb, h, o.v g rep_int⟩
    · exact o.elim
  · exact o.elim⟩
theorem o_mod : Op8 X w E .Mod dMod := ⟨_, op_mod, fun z a b x y Q g ra rb o => by
  unfold dMod at o
  split at o
  · rw [Rep] at ra rb
    split at o
    · rename_i h
      exact ⟨_, _, ra, rb, h, o.v g rep_int⟩
    · exact o.elim
  · exact o.elim⟩
theorem o_fdiv : Op8 X w E .FloorDiv dFdiv := ⟨_, op_fdivW, fun z a b x y Q g ra rb o => by
  unfold dFdiv at o
  split at o
  · rw [Rep] at ra rb
    split at o
    · rename_i h
      exact ⟨_, _, ra, rb, h, o.v g rep_int⟩
    · exact o.elim
  · exact o.elim⟩
theorem o_pow : Op8 X w E .Pow dPow := ⟨_, op_pow, fun z a b x y Q g ra rb o => by
  unfold dPow at o
  split at o
  · rw [Rep] at ra rb
    split at o
    · rename_i h
      exact ⟨_, _, ra, rb, h, o.v g rep_int⟩
    · exact o.elim
  · exact o.elim⟩
/-! lists times a number -/
theorem RepL.rep {z : Sit} {ds : List D} {vs : List V} (r : RepL w z ds vs) : ∀ n : Nat, RepL w z (List.replicate n ds).flatten (List.replicate n vs).flatten
  | 0 => by simp [RepL]
  | n + 1 => by
    rw [List.replicate_succ, List.replicate_succ, List.flatten_cons, List.flatten_cons]
    exact r.append (RepL.rep r n)
def dRep : D → D → M D
  | .lst xs, .int k => if k < 1000000 ∧ -1000000 < k ∧ xs.length * k.toNat ≤ big then M.ret (.lst (List.replicate k.toNat xs).flatten) else M.bad
  | _, _ => M.bad
theorem o_rep : Op8 X w E .Mult dRep := ⟨_, op_rep, fun z a b x y Q g ra rb o => by
  unfold dRep at o
  split at o
  · rename_i xs k
    rw [Rep] at ra
    rw [Rep] at rb
    split at o
    · rename_i h
      obtain ⟨p, vs, rfl, _, h1, r1⟩ := ra
      subst rb
      exact ⟨p, _, vs, rfl, rfl, h1, by omega, by omega, by rw [← r1.length]; exact big_le h.2.2, new_lst g (r1.rep _) o⟩
    · exact o.elim
  · exact o.elim⟩
abbrev dMul8 : D → D → M D := gAlt2 dMul dRep
theorem o_mul (hK : X.K = w.K) : Op8 X w E .Mult dMul8 := o_mul0.or o_rep
/-! max, min, sorted -/
def maxI : List Int → Int
  | [] => 0
  | [x] => x
  | x :: y :: r => if maxI (y :: r) < x then x else maxI (y :: r)
def minI : List Int → Int
  | [] => 0
  | [x] => x
  | x :: y :: r => if x < minI (y :: r) then x else minI (y :: r)
theorem maxI_spec : ∀ {ns : List Int}, ns ≠ [] → maxI ns ∈ ns ∧ ∀ y ∈ ns, y ≤ maxI ns
  | [], h => absurd rfl h
  | [x], _ => by simp [maxI]
  | x :: y :: r, _ => by
    obtain ⟨h1, h2⟩ := maxI_spec (ns := y :: r) (by simp)
    rw [maxI]
    split
    · rename_i h
      refine ⟨List.mem_cons_self, fun z hz => ?_⟩
      rcases List.mem_cons.mp hz with rfl | hz
      · exact Int.le_refl _
      · have := h2 z hz; omega
    · rename_i h
      refine ⟨List.mem_cons_of_mem _ h1, fun z hz => ?_⟩
      rcases List.mem_cons.mp hz with rfl | hz
      · omega
      · exact h2 z hz
theorem minI_spec : ∀ {ns : List Int}, ns ≠ [] → minI ns ∈ ns ∧ ∀ y ∈ ns, minI ns ≤ y
  | [], h => absurd rfl h
  | [x], _ => by simp [minI]
  | x :: y :: r, _ => by
    obtain ⟨h1, h2⟩ := minI_spec (ns := y :: r) (by simp)
    rw [minI]
    split
    · rename_i h
      refine ⟨List.mem_cons_self, fun z hz => ?_⟩
      rcases List.mem_cons.mp hz with rfl | hz
      · exact Int.le_refl _
      · have := h2 z hz; omega
    · rename_i h
      refine ⟨List.mem_cons_of_mem _ h1, fun z hz => ?_⟩
      rcases List.mem_cons.mp hz with rfl | hz
      · omega
      · exact h2 z hz
def insI (x : Int) : List Int → List Int
  | [] => [x]
  | y :: r => if x ≤ y then x :: y :: r else y :: insI x r
def sortI : List Int → List Int
  | [] => []
  | x :: r => insI x (sortI r)
theorem insI_perm (x : Int) : ∀ r : List Int, (insI x r).Perm (x :: r)
  | [] => .refl _
  | y :: r => by
    rw [insI]
    split
    · exact .refl _
    · exact ((insI_perm x r).cons y).trans (.swap x y r)
theorem sortI_perm : ∀ r : List Int, (sortI r).Perm r
  | [] => .refl _
  | x :: r => (insI_perm x _).trans ((sortI_perm r).cons x)
theorem insI_sorted (x : Int) : ∀ {r : List Int}, r.Pairwise (· ≤ ·) → (insI x r).Pairwise (· ≤ ·)
  | [], _ => List.pairwise_singleton _ _
  | y :: r, h => by
    rw [insI]
    obtain ⟨h1, h2⟩ := List.pairwise_cons.mp h
    split
    · rename_i hx
      refine List.pairwise_cons.mpr ⟨fun z hz => ?_, h⟩
      rcases List.mem_cons.mp hz with rfl | hz
      · exact hx
      · exact Int.le_trans hx (h1 z hz)
    · rename_i hx
      refine List.pairwise_cons.mpr ⟨fun z hz => ?_, insI_sorted x h2⟩
      rcases List.mem_cons.mp ((insI_perm x r).mem_iff.mp hz) with rfl | hz
      · omega
      · exact h1 z hz
theorem sortI_sorted : ∀ r : List Int, (sortI r).Pairwise (· ≤ ·)
  | [] => .nil
  | x :: r => insI_sorted x (sortI_sorted r)
theorem sorted_uniq : ∀ {xs ys : List Int}, xs.Perm ys → xs.Pairwise (· ≤ ·) → ys.Pairwise (· ≤ ·) → xs = ys
  | [], ys, h, _, _ => (List.nil_perm.mp h).symm
  | x :: xs, [], h, _, _ => by simpa using h.length_eq
  | x :: xs, y :: ys, h, h1, h2 => by
    obtain ⟨a1, a2⟩ := List.pairwise_cons.mp h1
    obtain ⟨b1, b2⟩ := List.pairwise_cons.mp h2
    have e : x = y := by
      have m1 : x ∈ y :: ys := h.mem_iff.mp List.mem_cons_self
      have m2 : y ∈ x :: xs := h.mem_iff.mpr List.mem_cons_self
      rcases List.mem_cons.mp m1 with e | m1
      · exact e
      · rcases List.mem_cons.mp m2 with e | m2
        · exact e.symm
        · have := b1 x m1; have := a1 y m2; omega
    subst e
    rw [sorted_uniq ((List.perm_cons x).mp h) a2 b2]
def intsAt (S : Store) (as : List D) : Option (List Int) := match as with
  | [d] => (asL S d).bind intsOf
  | _ => none
def dMaxL (as : List D) : M D := fun S => match intsAt S as with
  | some ns => if ns = [] then .bad else .ok (.int (maxI ns)) S
  | none => .bad
def dMinL (as : List D) : M D := fun S => match intsAt S as with
  | some ns => if ns = [] then .bad else .ok (.int (minI ns)) S
  | none => .bad
def dSortedL (as : List D) : M D := fun S => match intsAt S as with
  | some ns => .ok (.lst ((sortI ns).map D.int)) S
  | none => .bad
theorem intsAt_at {z : Sit} {as : List D} {xs : List V} {ns : List Int} (g : Good w z) (r : RepL w z as xs) (h : intsAt z.S as = some ns) : ∃ a, xs = [.ref a] ∧ SqL w.K z.H a (ns.map V.int) := by
  unfold intsAt at h
  split at h
  · rw [RepL] at r
    obtain ⟨v, r', rfl, rv, rr⟩ := r
    rw [RepL] at rr
    subst rr
    obtain ⟨a, rfl, q⟩ := ints_at g rv h
    exact ⟨a, rfl, q⟩
  · cases h
theorem cr_maxK (h : X.K = w.K) (hc : X.calm = true) : CallR X (.builtin "max") (rMax w.K) := by rw [← h]; exact cr_max hc
theorem cr_minK (h : X.K = w.K) (hc : X.calm = true) : CallR X (.builtin "min") (rMin w.K) := by rw [← h]; exact cr_min hc
theorem cr_sortedK (h : X.K = w.K) : CallR X (.builtin "sorted") (rSortedI w.K) := by rw [← h]; exact cr_sortedI
theorem b_maxL (hK : X.K = w.K) (hc : X.calm = true) : Bi8 X w E (.builtin "max") dMaxL := ⟨_, cr_maxK hK hc, fun z as xs Q g r o => by
  unfold dMaxL at o
  split at o
  · rename_i ns hn
    split at o
    · exact o.elim
    · rename_i hne
      obtain ⟨a, rfl, q⟩ := intsAt_at g r hn
      refine ⟨a, ns, rfl, q, List.length_pos_iff.mpr hne, fun m h1 h2 => ?_⟩
      obtain ⟨k1, k2⟩ := maxI_spec hne
      have e : m = maxI ns := by have := h2 _ k1; have := k2 _ h1; omega
      rw [e]
      exact o.okv g rep_int
  · exact o.elim⟩
theorem b_minL (hK : X.K = w.K) (hc : X.calm = true) : Bi8 X w E (.builtin "min") dMinL := ⟨_, cr_minK hK hc, fun z as xs Q g r o => by
  unfold dMinL at o
  split at o
  · rename_i ns hn
    split at o
    · exact o.elim
    · rename_i hne
      obtain ⟨a, rfl, q⟩ := intsAt_at g r hn
      refine ⟨a, ns, rfl, q, List.length_pos_iff.mpr hne, fun m h1 h2 => ?_⟩
      obtain ⟨k1, k2⟩ := minI_spec hne
      have e : m = minI ns := by have := h2 _ k1; have := k2 _ h1; omega
      rw [e]
      exact o.okv g rep_int
  · exact o.elim⟩
theorem b_sortedL (hK : X.K = w.K) : Bi8 X w E (.builtin "sorted") dSortedL := ⟨_, cr_sortedK hK, fun z as xs Q g r o => by
  unfold dSortedL at o
  split at o
  · rename_i ns hn
    obtain ⟨a, rfl, q⟩ := intsAt_at g r hn
    refine ⟨a, ns, rfl, q, fun ns' p h1 h2 hp => ?_⟩
    have e : ns' = sortI ns := sorted_uniq (h1.trans (sortI_perm ns).symm) h2 (sortI_sorted ns)
    rw [e]
    exact new_lst g (RepL.mkInts _) (show Out w z (M.ret (.lst _) z.S) (PQ w Q) E from o) p hp
  · exact o.elim⟩
/-! xs[::-1] -/
def dRev (d : D) : M D := fun S => match asL S d with
  | some ds => .ok (.lst ds.reverse) S
  | none => .bad
theorem RepL.rev {z : Sit} : ∀ {ds : List D} {vs : List V}, RepL w z ds vs → RepL w z ds.reverse vs.reverse
  | [], _, r => by rw [RepL] at r; subst r; simp [RepL]
  | d :: ds, _, r => by
    rw [RepL] at r
    obtain ⟨v, r', rfl, rv, rr⟩ := r
    rw [List.reverse_cons, List.reverse_cons]
    exact (RepL.rev rr).append (RepL.cons rv RepL.nil)
theorem pm_rev {k : Nat} {p1 p2 p3 : Pos} (hK : X.K = w.K) (A : PM X w E e fe) : PM X w E (.Subscript e (.Slice none none (some (.UnaryOp .USub (.Constant (.int 1) k p1) p2)) p3) pos) (f1 dRev fe) := by
  refine (pe_revL A).wk fun σ H Q ⟨env, z, eH, G, re, o⟩ => ⟨env, z, eH, G, re, (Out.bnd o).imp fun d z1 x1 g1 o1 v rv => ?_⟩
  unfold dRev at o1
  split at o1
  · rename_i ds h
    obtain ⟨a, vs, rfl, h1, r1⟩ := asL_at g1 rv h
    exact ⟨a, vs, rfl, .inl (.inl h1), new_lst g1 r1.rev (show Out w z1 (M.ret (.lst _) z1.S) (PQ w Q) E from o1)⟩
  · exact o1.elim
end
end Ol

/-! <, <=, >, >= of data that are alike -/
namespace Ol
open PySem PySem.Spec PyProof.Rows L2
/-- which answer -/
def ordAns (op : CmpOp) (p q : PyData) : Option Bool := match op with
  | .Lt => some (PySem.W.dataLt p q)
  | .Gt => some (PySem.W.dataLt q p)
  | .LtE => some (!PySem.W.dataLt q p)
  | .GtE => some (!PySem.W.dataLt p q)
  | _ => none
def notNon : PyData → Bool
  | .none => false
  | _ => true
def dOrd (op : CmpOp) (a b : D) : M D := fun S => match pyOf S a, pyOf S b with
  | some p, some q => if PySem.W.alike p q = true ∧ notNon p = true ∧ SeqAt.shaped p = true then (match ordAns op p q with | some k => .ok (.bl k) S | none => .bad) else .bad
  | _, _ => .bad
def rOrd (K : PySem.W.Frag) (op : CmpOp) : R2 := fun x y H Q => ∃ p q k, Dp K H x p ∧ Dp K H y q ∧ PySem.W.alike p q = true ∧ notNon p = true ∧ SeqAt.shaped p = true ∧ ordAns op p q = some k ∧ Q (.bl k) H
section
variable {X : Cx} {w : Wd} {E : XK}
theorem op_ord {op : CmpOp} (hK : X.K = w.K) (hu : X.A.units + 64 < cLine) : OpR X (compareOp op) (rOrd w.K op) := by
  intro pins s σ H x y v u Q I rx ry h
  obtain ⟨p, q, k, hp, hq, al, nn, sh, ha, fin⟩ := h
  rw [← hK] at hp hq
  obtain ⟨as, r1⟩ := Dp.reads I p x v hp rx
  obtain ⟨bs, r2⟩ := Dp.reads I q y u hq ry
  have hn : p ≠ .none := fun e => by rw [e] at nn; cases nn
  have dp := SeqAt.depth_of_shaped sh
  have room : X.A.units + min p.depth q.depth < cLine := by omega
  cases op with
  | Lt => cases ha; exact PySem.W.lt_data r1 r2 al hn room ⟨.bl _, H, I, rfl, fin⟩
  | Gt => cases ha; exact PySem.W.gt_data r1 r2 al hn room ⟨.bl _, H, I, rfl, fin⟩
  | LtE => cases ha; exact PySem.W.le_data r1 r2 al hn room ⟨.bl _, H, I, rfl, fin⟩
  | GtE => cases ha; exact PySem.W.ge_data r1 r2 al hn room ⟨.bl _, H, I, rfl, fin⟩
  | _ => cases ha
theorem c_ord {op : CmpOp} (hK : X.K = w.K) {k : Nat} (hr : Room k X.A) : Cmp8 X w E op (dOrd op) := ⟨_, op_ord hK hr.units, fun z a b x y Q g ra rb o => by
  unfold dOrd at o
  split at o
  · rename_i p q h1 h2
    split at o
    · rename_i h
      split at o
      · rename_i k hk
        exact ⟨p, q, k, pyOf_dp g ra h1, pyOf_dp g rb h2, h.1, h.2.1, h.2.2, hk, o.okv g rep_bl⟩
      · exact o.elim
    · exact o.elim
  · exact o.elim⟩
end
end Ol

/-! repr of an empty dict -/
namespace Ol
open PySem PySem.Spec PyProof.Rows L2 LamX
section
variable {X : Cx} {w : Wd} {E : XK} {pos : Pos}
def rRepr0 (K : PySem.W.Frag) : List V → Hp → VK → Prop := fun xs H Q => (∃ p, xs = [.ref p] ∧ H p = some (.dK []) ∧ Q (.str "{}") H) ∨ rRepr K xs H Q
theorem call_repr0 {k : Nat} (hgd : X.A.guards = some []) (hr : Room k X.A) : CallR X (.builtin "repr") (rRepr0 X.K) := by
  intro pins s σ H xs us Q I r h
  rcases h with ⟨p, rfl, hp, q⟩ | h
  · obtain ⟨u, rfl, ru⟩ := vals1 r
    cases (show u = Value.ref p from ru)
    obtain ⟨_, hsys, vs, kv, ⟨o, es, ep, e, x, d, _, pr, _⟩⟩ := I.hok p _ hp
    have hvs : vs = [] := by cases vs with
      | nil => rfl
      | cons a b => exact nomatch kv
    subst hvs
    have hes : es.toList = [] := by
      generalize es.toList = l at pr
      cases pr
      rfl
    have rd : Reads s.heap (.ref p) (.dict []) (p :: [] ++ []) := .dict e x.1 d (by rw [hes]; exact .nil) (by rw [hes]; exact .nil)
    have hs : sysModules ∉ (p :: [] ++ []) := by
      simp only [List.append_nil, List.mem_singleton]
      intro z
      subst z
      exact absurd hsys (by decide)
    exact repr_of_reads' rd rfl (fun _ => hs) hgd (by have := hr.un; show _ + (PyData.depth (.dict []) + 1) < _; have : PyData.depth (.dict []) = 1 := rfl; omega) (fun _ _ e => e) (fun h' t tk hk => ⟨.str _, H, I.kept hk, ⟨_, rfl⟩, q⟩) (by decide)
  · exact call_reprD hgd hr pins s σ H xs us Q I r h
def dRepr2 (as : List D) : M D := match as with
  | [.dct []] => M.ret (.str "{}")
  | as => dRepr as
theorem b_repr2 (hK : X.K = w.K) {k : Nat} (hgd : X.A.guards = some []) (hr : Room k X.A) : Bi8 X w E (.builtin "repr") dRepr2 := by
  have q := call_repr0 hgd hr
  rw [hK] at q
  refine ⟨_, q, fun z as xs Q g rp o => ?_⟩
  unfold dRepr2 at o
  split at o
  · obtain ⟨v, rfl, r⟩ := RepL.one rp
    rw [Rep] at r
    obtain ⟨a, us, rfl, _, h, ru⟩ := r
    rw [RepK] at ru
    subst ru
    exact .inl ⟨a, rfl, h, (Out.ret o g rfl) _ rep_str⟩
  · refine .inr ?_
    unfold dRepr at o
    split at o
    · obtain ⟨v, rfl, r⟩ := RepL.one rp
      split at o
      · rename_i h
        split at o
        · rename_i h2
          exact ⟨v, _, big, rfl, pyOf_dp g r h, ⟨h2.1, h2.2.1, h2.2.2.1, h2.2.2.2⟩, big_le (Nat.le_refl _), o.okv g rep_str⟩
        · exact o.elim
      · exact o.elim
    · exact o.elim
end
end Ol

/-! enumerate(tuple) -/
namespace PySem
open Sem (wp)
open AutoSeq1 (wpAny_loadPart')
theorem ol_meets_enum1 {v : Value} {o : Obj} {H : Heap → Prop} (B : Begins v o H) :
    Meets (Builtin.«enumerate.__new__» ⟨[.type "enumerate", v], []⟩) (fun _ R s => H s.heap ∧
      R (.ok (.ret (.ref (s.heap.push o).objs.size))) { s with heap := (s.heap.push o).push { cls := .type "enumerate", data := .fields #[.none, .bool false, .ref s.heap.objs.size, rawInt 0, .none, .none] } }) :=
  .of_wp fun prog w A R s h => by
    obtain ⟨hp, g, d, tk, os⟩ := s
    obtain ⟨h1, h⟩ := h
    have hsub := sub_enumerate
    have q1 : ∀ {A' : Around} {E : Value → Shared → Prop} {Q : Value → Shared → Prop}, Q (.ref hp.objs.size) ⟨hp.push o, g, d, tk, os⟩ → wpAny (model prog w) A' (pyIter v) Q E ⟨hp, g, d, tk, os⟩ :=
      fun q => B.iter prog w _ _ ⟨hp, g, d, tk, os⟩ _ h1 q
    wp_walk using q1
    refine wpAny_stack_any fun st => wpAny_pure ?_
    split
    · rename_i c _ _ _ _ _
      cases (c == Value.type "enumerate")
      all_goals
        wp_walk using q1
        exact ⟨_, rfl, h⟩
    · wp_walk using q1
      exact ⟨_, rfl, h⟩
end PySem
namespace Ol
open PySem PySem.Spec PyProof.Rows L2 LamX
section
variable {prog : Program} {w : World} {A : Around} {E : Value → Shared → Prop} {s : Shared}
theorem call_enumB {v : Value} {o : Obj} {H : Heap → Prop} {Q : Value → Shared → Prop} (B : Begins v o H) (h1 : H s.heap)
    (h : ∀ h', IsEnum h' (s.heap.objs.size + 1) s.heap.objs.size 0 .none → h'.get? s.heap.objs.size = some o → (∀ b o, s.heap.get? b = some o → h'.get? b = some o) → Q (.ref (s.heap.objs.size + 1)) { s with heap := h' }) :
    wpAny (model prog w) A (call (.type "enumerate") [v]) Q E s := by
  refine callType_new F.called_enumerate (by decide) (F.typeCall_enumerate_1 _) (F.newCall_enumerate_1 _) (fun obj => F.args_object_init_2 obj _) F.entry_enumerate_new (ol_meets_enum1 B) ⟨h1, ?_⟩
  have hz : (s.heap.push o).objs.size = s.heap.objs.size + 1 := Heap.size_push ..
  show _ ∧ _
  rw [hz]
  have he := Heap.get?_push_size (s.heap.push o) (o := { cls := .type "enumerate", data := .fields #[.none, .bool false, .ref s.heap.objs.size, rawInt 0, .none, .none] }) rfl
  rw [hz] at he
  exact ⟨⟨_, he, rfl⟩, h _ he (Heap.get?_push_of_some _ (Heap.get?_push_size _ B.free)) fun b o x => Heap.get?_push_of_some _ (Heap.get?_push_of_some _ x)⟩
end
theorem ol_enum_end {prog : Program} {w : World} {A : Around} {E : Value → Shared → Prop} {s : Shared} {e it t : Addr} {i : Nat} {items : Array Value} {old : Value} {Q : Option Value → Shared → Prop} (hh : A.handled = none)
    (he : IsEnum s.heap e it i old) (hit : s.heap.IsTupleIter it t i) (hl : s.heap.IsTuple t items) (hx : items[i]? = none)
    (hQ : ∀ h', Heap.ExtBut it s.heap h' → Q none { s with heap := h' }) : wpAny (model prog w) A (pyNext (.ref e)) Q E s := by
  have hT : s.TypeIs (.ref e) "enumerate" := ⟨_, he, rfl⟩
  unfold pyNext
  refine wpAny_bind (wpAny_attempt (wpAny_callSpecial?_slot (name := Str.ofString "__next__") hT F.slot_enumerate_next
    (wpAny_call_entry F.slot_enumerate_next hT F.entry_enumerate_next ?_ (F.args_enumerate_next_1 _))))
  show wpAny _ _ (field (.ref e) 2 >>= _) _ _ _
  refine wpAny_bind (wpAny_field he rfl (x := .ref it) rfl ?_)
  refine wpAny_bind (wpAny_nextOf_tuple_end hh hit hl hx fun h' x he' hx' => ?_)
  obtain ⟨o, ho, hc⟩ := hx'
  refine wpAny_bind (wpAny_isInstance (T := "StopIteration") (b := true) ⟨o, ho, hc⟩ isSubtype_stop ?_)
  exact wpAny_pure (hQ _ he')
def IteT (K : PySem.W.Frag) (a : Addr) : It :=
  ⟨fun i H => ∃ (xs : List V) (x : V), SqT K H a xs ∧ xs[i]? = some x, fun i H v H' => ∃ T x, v = .ref T ∧ H T = none ∧ H' = upd H T (.tup [.int (i : Nat), x]) ∧ ∀ xs, SqT K H a xs → xs[i]? = some x, fun i H => ∃ xs : List V, SqT K H a xs ∧ xs.length ≤ i⟩
theorem turn_enumT {P : Program} {w : World} {K : PySem.W.Frag} {elts : List Expr} {kk : Nat} {tpos : Pos} (a e it : Addr) :
    Turn P w K (.Tuple elts kk tpos) (IteT K a) [e, it] e (fun i h => (∃ old, IsEnum h e it ((i : Nat) : Int) old) ∧ h.IsTupleIter it a i ∧ e ≠ it ∧ a ≠ it ∧ e ≠ a) where
  mem := by simp
  obj := fun i h st b hb => by
    obtain ⟨⟨old, he⟩, ⟨o, ho, hc, hd⟩, _⟩ := st
    have e' : b = e ∨ b = it := by simpa using hb
    rcases e' with z | z
    · rw [z]; exact ⟨_, he, fun v q => nomatch q⟩
    · rw [z]; exact ⟨o, ho, fun v q => by rw [hd] at q; cases q⟩
  keep := fun i h h' st k => let ⟨⟨old, he⟩, hi, hne⟩ := st; ⟨⟨old, k e (by simp) _ he⟩, hi.at fun o q => k it (by simp) o q, hne⟩
  item := by
    intro X hP hw hK hc i pins s σ H E I hf st hg
    subst hP hw hK
    obtain ⟨⟨old, he⟩, hit, hne, hai, hea⟩ := st
    obtain ⟨xs, x, hq, hx⟩ := hg
    obtain ⟨its, rv, p, hz⟩ := I.tuple hq
    obtain ⟨u, hu, ru⟩ := rv.get hx
    have hel : e < s.heap.objs.size := Heap.lt_size he
    have hil : it < s.heap.objs.size := by obtain ⟨_, q, _⟩ := hit; exact Heap.lt_size q
    have pt : s.heap.IsTuple a its.toArray := p
    have hlt : i < its.toArray.size := by rw [List.size_toArray]; exact (List.getElem?_eq_some_iff.mp hu).1
    refine wpAny_pyNext_enum_itemD (Draws.tuple (A := X.A.in1) (show X.A.in1.handled = none from I.ok.hd hc) it a hai its.toArray) he ⟨hit, pt⟩ hlt hne (by simp [hne, hea]) fun x' h' tk hP ho hst hT hsz hk => ?_
    have ex : x' = u := by
      have hu' : its.toArray[i]? = some u := by simpa using hu
      rw [hu'] at hP
      exact (Option.some.inj hP).symm
    subst ex
    refine ⟨_, rfl, wpAny_letOwnedTupleGo_enum (s := { s with heap := h', toks := tk + 1 }) ho fun h'' he' sb => ?_⟩
    have hT2 : h''.get? s.heap.objs.size = some { cls := .type "tuple", data := .seq #[.int i tk, x'] } := (sb.2 _ (Nat.ne_of_gt hel)).trans hT
    have new : ObjOk X.prog X.w (upd H s.heap.objs.size (.tup [.int (i : Nat), x])) h'' s.heap.objs.size (.tup [.int (i : Nat), x]) :=
      ⟨by show 2 ≤ sizeLine; decide, [.int i tk, x'], .cons ⟨_, rfl⟩ (.cons ru .nil), ⟨_, hT2, rfl, _, rfl⟩⟩
    have I1 : Inv X pins σ (upd H s.heap.objs.size (.tup [.int (i : Nat), x])) { s with heap := h'', toks := tk + 1 } :=
      I.turnedNew (ch := [e, it]) (fun b ob hb q => (sb.2 b (fun z => hb (by simp [z]))).trans (hk b ob (fun z => hb (by simp [z])) (fun z => hb (by simp [z])) q)) hf (Nat.le_refl _) new
    refine ⟨.ref s.heap.objs.size, _, I1, rfl, ⟨_, x, rfl, I.hok.fresh (Nat.le_refl _), rfl, fun ys hy => by rw [I.tuple_inj hy hq]; exact hx⟩, ⟨⟨x', ?_⟩, hst.1.at fun o q => (sb.2 it (Ne.symm hne)).trans q, hne, hai, hea⟩, fun b hb => ?_⟩
    · have e1 : ((i + 1 : Nat) : Int) = (i : Int) + 1 := by omega
      rw [e1]; exact he'
    · have hb' : b < s.heap.objs.size := by
        have e' : b = e ∨ b = it := by simpa using hb
        rcases e' with z | z
        · rw [z]; exact hel
        · rw [z]; exact hil
      rw [upd_ne (Nat.ne_of_lt hb')]
      exact (hf b hb).1
  done := by
    intro X hP hw hK hc i pins s σ H E I hf st hg
    subst hP hw hK
    obtain ⟨⟨old, he⟩, hit, hne, hai, hea⟩ := st
    obtain ⟨xs, hq, hx⟩ := hg
    obtain ⟨its, rv, p, hz⟩ := I.tuple hq
    obtain ⟨f0, f1, f2, f3, f4, f5⟩ := hf it (by simp)
    have hl := rv.length
    have pt : s.heap.IsTuple a its.toArray := p
    exact ol_enum_end (I.ok.hd hc) he hit pt (by simp; omega) fun h' eb => ⟨rfl, I.turned (t' := s.toks) (fun b o hb q => eb b o hb q) f0 f1 f3 f4 f5⟩
  self := fun A i s Q E st h => let ⟨⟨_, he⟩, _⟩ := st; wpAny_pyIter_enum he h
def iEnumT (K : PySem.W.Frag) (ta : TA) : TI := fun σ H R => ta σ H fun vs H1 => ∃ a xs, vs = [.ref a] ∧ SqT K H1 a xs ∧ R (IteT K a) H1
theorem pi_enumT {X : Cx} {e : Expr} {ta : TA} {p pos tpos : Pos} {elts : List Expr} {kk : Nat} (hg : Gl X "enumerate") (hm : X.mg "enumerate" = none) (ha : PA X [e] ta) (hs : starEach [e] X.env = [(false, eval e X.env)] := by rfl) :
    PI X (.Tuple elts kk tpos) (.Call (.Name "enumerate" p) [e] [] pos) (iEnumT X.K ta) := by
  refine ⟨fun pins s σ H R I h => ?_⟩
  refine Call_ (ld_blt I hg hm boot_enumerate (PyProof.Rows.callWith_type1 (thn (ha.run pos pins s σ H _ I h) fun us s1 ⟨vs, H1, I1, r1, q1⟩ => ?_) hs rfl))
  obtain ⟨a, xs, ex, hq, q⟩ := q1
  subst ex
  cases r1 with
  | cons r rr =>
    cases rr
    cases r
    obtain ⟨its, rv, p', hz⟩ := I1.tuple hq
    have pt : s1.heap.IsTuple a its.toArray := p'
    have hal : a < s1.heap.objs.size := by obtain ⟨o, q, _⟩ := pt; exact Heap.lt_size q
    refine call_enumB (begins_tuple a its.toArray) pt fun h' he hit hk => wpAny_pyIter_enum he ?_
    have I2 : Inv X pins σ H1 { s1 with heap := h' } := I1.kept (t' := s1.toks) hk
    have n1 : (s1.heap.objs.size + 1 : Nat) ≠ a := fun z => by
      rw [← z] at hal
      exact absurd hal (Nat.not_lt.mpr (Nat.le_succ _))
    have n2 : a ≠ s1.heap.objs.size := fun z => by
      have : (a : Nat) < s1.heap.objs.size := hal
      rw [z] at this
      exact Nat.lt_irrefl _ this
    refine ⟨s1.heap.objs.size + 1, [s1.heap.objs.size + 1, s1.heap.objs.size], _, _, H1, rfl, I2, turn_enumT a (s1.heap.objs.size + 1) s1.heap.objs.size, ⟨⟨.none, he⟩, ⟨_, hit, rfl, rfl⟩, Nat.succ_ne_self _, n2, n1⟩, fun b hb => ?_, q⟩
    have e' : b = s1.heap.objs.size + 1 ∨ b = s1.heap.objs.size := by simpa using hb
    have hle : s1.heap.objs.size ≤ b := by
      rcases e' with z | z
      · rw [z]; exact Nat.le_add_right _ _
      · rw [z]; exact Nat.le_refl _
    exact I1.fpOk hle (I1.hok.fresh hle)
def dEnumT (as : List D) : M (List D) := match as with
  | [.tup ds] => M.ret (ds.zipIdx.map fun p => .tup [.int (p.2 : Nat), p.1])
  | _ => M.bad
section
variable {X : Cx} {w : Wd} {E : XK} {e : Expr} {fs : Env8 → M (List D)} {q pos tpos : Pos} {elts : List Expr} {kk : Nat}
theorem yl_enumT {z : Sit} {ds : List D} {p : Addr} (r : Rep w z (.tup ds) (.ref p)) : Yl w (IteT w.K p) z (ds.zipIdx.map fun q => .tup [.int (q.2 : Nat), q.1]) := fun z1 x g => by
  have r1 := r.mono x
  obtain ⟨a, vs, e, q, rl⟩ := asT_at r1 (show asT (.tup ds) = some ds from rfl)
  cases e
  refine ⟨fun i d hd => ?_, vs, q, by simp [rl.length]⟩
  rw [List.getElem?_map] at hd
  cases hz : ds.zipIdx[i]? with
  | none => rw [hz] at hd; cases hd
  | some pr =>
    rw [hz] at hd
    cases hd
    rw [List.getElem?_zipIdx, Option.map_eq_some_iff] at hz
    obtain ⟨d, hd, rfl⟩ := hz
    obtain ⟨v, h1, h2⟩ := rl.get hd
    refine ⟨⟨vs, v, q, h1⟩, fun y H' hy => ?_⟩
    obtain ⟨T, x', rfl, hT, rfl, hy⟩ := hy
    have e3 := hy vs q
    rw [h1] at e3
    cases e3
    have s := Same.new (o := .tup [.int (i : Nat), v]) hT
    refine ⟨z1.on (upd z1.H T (.tup [.int (i : Nat), v])), rfl, rfl, Ex.more s, g.more s, ?_⟩
    rw [Rep]
    exact ⟨T, _, rfl, .inl ⟨g.fresh hT, .inl upd_same⟩, RepL.cons (by simp; exact rep_int) (RepL.cons (h2.mono (Ex.more s).vx) RepL.nil)⟩
theorem pmi_enumT (hK : X.K = w.K) (hg : Gl X "enumerate") (hm : X.mg "enumerate" = none) (A : PMA X w E [e] fs) (hs : starEach [e] X.env = [(false, eval e X.env)] := by rfl) : PMI X w E (.Tuple elts kk tpos) (.Call (.Name "enumerate" q) [e] [] pos) (f1 dEnumT fs) := by
  have p := pi_enumT (elts := elts) (kk := kk) (tpos := tpos) (p := q) (pos := pos) hg hm A hs
  rw [hK] at p
  refine p.wk fun σ H R ⟨env, z, eH, G, re, o⟩ => ⟨env, z, eH, G, re, (Out.bnd o).imp fun ds z1 x1 g1 o1 vs rv => ?_⟩
  unfold dEnumT at o1
  split at o1
  · obtain ⟨v, rfl, r⟩ := RepL.one rv
    have r0 := r
    obtain ⟨a, us, rfl, h, rl⟩ := asT_at r (show asT (.tup _) = some _ from rfl)
    exact ⟨a, us, rfl, h, (Out.ret o1 g1 rfl) _ (yl_enumT r0)⟩
  · exact o1.elim
end
end Ol

/-! own thing not in a list none of whose items is equal to it -/
namespace Ol
open PySem PySem.Spec PySem.W PySem.Calls PyProof.Rows L2
open AutoSeq1 (wpAny_loadPart')
open MeetsSeq MeetsSeq2 MeetsSeq3 SeqRoads2
section
variable {prog : Program} {w : World}
def LsAt (h : Heap) (l : Addr) (N : Nat) (items : Array Value) : Prop := items.size = N ∧ ∃ n, h.get? l = some { cls := .type "list", data := .seq items n }
theorem nin_loop (l : Addr) (N : Nat) (x : Value) (A : Around) (R : Result → Shared → Prop) (J : Shared → Prop)
    (hl : ∀ s, J s → ∃ items, LsAt s.heap l N items ∧ ∀ y, y ∈ items → ∀ Q : Bool → Shared → Prop, (∀ s', J s' → Q false s') → wpAny (model prog w) A.in1 (eqBool y x) Q (fun e s' => R (.error e) s') s)
    (hR : ∀ s, J s → R (.ok (.ret (.bool false))) s) (k : Nat) :
    ∀ i : Nat, N - i = k → ∀ s, J s → wpAny (model prog w) A.in1 (Builtin.«list.__contains__.loop» ⟨[.ref l, x, rawInt i], []⟩) (fun fin s' => match fin with | .done f => R (.ok f) s' | .again c' => c'.quiet = true ∧ codeAny (model prog w) A c' R s') (fun e s' => R (.error e) s') s := by
  induction k with
  | zero =>
    intro i hk s h
    obtain ⟨items, ⟨hN, n, hl'⟩, _⟩ := hl s h
    have hr := hR s h
    obtain ⟨hp, g, d, tk, os⟩ := s
    wp_walk using wpAny_loadPart' hl'
    have hi : items[((i : Nat) : Int).toNat]? = none := by simp; omega
    rw [hi]
    wp_walk
    exact hr
  | succ k ih =>
    intro i hk s h
    obtain ⟨items, ⟨hN, n, hl'⟩, he⟩ := hl s h
    obtain ⟨hp, g, d, tk, os⟩ := s
    wp_walk using wpAny_loadPart' hl'
    have hlt : i < items.size := by omega
    have hi : items[((i : Nat) : Int).toNat]? = some items[i] := by simp [hlt]
    rw [hi]
    refine wpAny_bind (he _ (Array.getElem_mem hlt) _ fun s' h' => ?_)
    obtain ⟨hp, g, d, tk, os⟩ := s'
    have hc : ((i : Int) + 1) = ((i + 1 : Nat) : Int) := by push_cast; rfl
    wp_walk
    rw [hc]
    exact ⟨plainId_quiet plain_contains_loop _, codeAny_builtin entry_contains_loop (by
      rw [Around.under_plainId plain_contains_loop _]
      exact ih (i + 1) (by omega) _ h')⟩
theorem nin_list {l : Addr} {N : Nat} {x : Value} {A : Around} {E : Value → Shared → Prop} {Q : Value → Shared → Prop} {s : Shared} (J : Shared → Prop) (h : J s)
    (hl : ∀ s, J s → ∃ items, LsAt s.heap l N items ∧ ∀ y, y ∈ items → ∀ Q : Bool → Shared → Prop, (∀ s', J s' → Q false s') → wpAny (model prog w) A.in1 (eqBool y x) Q E s)
    (hq : ∀ s, J s → Q (.bool true) s) : wpAny (model prog w) A (compareOp .NotIn x (.ref l)) Q E s := by
  show wpAny _ _ (do return .bool (!(← contains (.ref l) x))) Q E s
  obtain ⟨items, ⟨hN, n, hl'⟩, _⟩ := hl s h
  refine wpAny_bind (wpAny_contains_slot ⟨_, hl', rfl⟩ F.slot_list_contains ?_)
  refine wpAny_call (codeAny_call_builtin F.slot_list_contains.plain F.entry_list_contains (F.slot_list_contains.check _ _ _ _ _ _ _ _ ⟨_, hl', rfl⟩ (F.args_list_contains_2 _ _) ?_))
  have go := nin_loop (prog := prog) (w := w) l N x A (wants (fun r s' => wpAny (model prog w) A (truthy r) (fun a s' => wpAny (model prog w) A (pure (Value.bool (!a))) Q E s') E s') E) J hl (fun s h => wpAny_truthy_bool (wpAny_pure (hq s h))) _ 0 rfl s h
  obtain ⟨hp, g, d, tk, os⟩ := s
  wp_walk using wpAny_loadPart' hl'
  exact ⟨plainId_quiet plain_contains_loop _, codeAny_builtin entry_contains_loop (by
    rw [Around.under_plainId plain_contains_loop _]
    exact go)⟩
end
section
variable {X : Cx} {CX : CXT} {k : Nat} {C f a dx : Addr} {fs : List (Str × V)} {fd : FuncData} {ps : List Str} {sp : Sp} {E : XK} {pins : List (Addr × Obj)} {σ : L2.St} {H : Hp} {s : Shared}
inductive EqB (K : Frag) (C : Addr) (H : Hp) : V → Prop where
  | int (i : Int) (h : subIn K (.ref C) (.type "int") = some false) : EqB K C H (.int i)
  | str (z : Str) (h : subIn K (.ref C) (.type "str") = some false) : EqB K C H (.str z)
  | non (h : subIn K (.ref C) (.type "NoneType") = some false) : EqB K C H .non
  | tup {a : Addr} {xs : List V} (e : SqT K H a xs) (t : TyX K H (.ref a) (.type "tuple")) (h : subIn K (.ref C) (.type "tuple") = some false) : EqB K C H (.ref a)
theorem eqB_right {A : Around} {Er : Value → Shared → Prop} {y : V} {u : Value} {Q : VK} (at_ : findIn X.K (.ref C) "__eq__" = some (some (.ref f))) (hfn : isFn X.K (.ref f) = true) (Fn : FnOk X.prog X.w X.K X.mg X.base CX k f fd ps sp) (hr : Room k A) (e0 : Env0 X.prog X.w X.K X.mg X.base A X.stack s H)
    (hb : Binds X.K fd ps []) (hx : ∀ e s', CX X.stack H s E e s' → Er e s') (I : Inv X pins σ H s) (ea : H a = some (.ins C dx fs)) (ry : RelV y u) (ey : EqB X.K C H y) (h : sp [.ref a, y] H Q E) :
    (u == Value.ref a) = false ∧ wpAny (model X.prog X.w) A (richCompare .Eq u (.ref a)) (EP X pins σ Q) Er s := by
  cases ey with
  | int i hs =>
    obtain ⟨t, rfl⟩ := id ry
    exact ⟨rfl, rich_right at_ hfn Fn hr e0 hb hx I ea ry (.int i hs) h⟩
  | str z hs =>
    obtain ⟨t, rfl⟩ := id ry
    exact ⟨rfl, rich_right at_ hfn Fn hr e0 hb hx I ea ry (.str z hs) h⟩
  | non hs =>
    cases (show u = Value.none from ry)
    exact ⟨rfl, rich_right at_ hfn Fn hr e0 hb hx I ea ry (.non hs) h⟩
  | @tup l xs el ty hs =>
    obtain ⟨mA, O, _⟩ := ins_get I.hok ea
    obtain ⟨od, J, _⟩ := O.look
    have run : wpAny (model X.prog X.w) A (call (.ref f) [.ref a, u]) (W.CmpBack (EP X pins σ Q)) Er s :=
      wpAny_mono (run_at (us := [.ref a, u]) (vs := [.ref a, .ref l]) Fn hr e0 hb hx I (.cons rfl (.cons ry .nil)) h) (fun _ _ z => back_ep z) fun _ _ z => z
    cases (show u = Value.ref l from ry)
    obtain ⟨its, _, ⟨o, h1, h2, n, h3⟩, _⟩ := I.tuple el
    refine ⟨Bool.eq_false_iff.mpr fun e => ?_, eq_right hr.units0 I.kIn J (show s.TypeIs (.ref l) "tuple" from ⟨_, h1, h2⟩) (looks_ty (x := .ref l) I rfl ty) rfl F.slot_tuple_eq (fun _ q => dec_eq_tuple h1 h2 h3 O.obj (looks_subIn I.kIn hs) q) hs at_ hfn run⟩
    cases beq_iff_eq.mp e
    have e1 := O.obj
    rw [h1] at e1
    cases e1
    cases h2
def rNotInB (K : Frag) (C : Addr) (sp : Sp) (E : XK) : R2 := fun x y H Q => ∃ (a l : Addr) (N : Nat) (J : Hp → Prop), x = .ref a ∧ y = .ref l ∧ J H ∧
  (∀ H', J H' → ∃ xs, xs.length = N ∧ H' l = some (.lst xs) ∧ ∀ v ∈ xs, (∃ dx fs, H' a = some (.ins C dx fs)) ∧ EqB K C H' v ∧ sp [.ref a, v] H' (fun r H2 => r = .bl false ∧ J H2) E) ∧ ∀ H', J H' → Q (.bl true) H'
theorem op_notInB (at_ : findIn X.K (.ref C) "__eq__" = some (some (.ref f))) (hfn : isFn X.K (.ref f) = true) (Fn : FnOk X.prog X.w X.K X.mg X.base CX k f fd ps sp) (hr : Room (k + 1) X.A)
    (hb : Binds X.K fd ps []) (hx : Passes CX X E) : OpR X (compareOp .NotIn) (rNotInB X.K C sp E) := by
  intro pins s σ H x y v u Q I rx ry h
  obtain ⟨a, l, N, J, rfl, rfl, j0, hJ, hQ⟩ := h
  cases (show v = Value.ref a from rx)
  cases (show u = Value.ref l from ry)
  refine nin_list (N := N) (fun s' => ∃ H', J H' ∧ Inv X pins σ H' s') ⟨H, j0, I⟩ (fun s' ⟨H', j, I'⟩ => ?_) fun s' ⟨H', j, I'⟩ => ⟨.bl true, H', I', rfl, hQ H' j⟩
  obtain ⟨xs, hN, hl, hv⟩ := hJ H' j
  obtain ⟨_, us, n, r, h1⟩ := (show ObjOk X.prog X.w H' s'.heap l (.lst xs) from I'.hok l _ hl)
  refine ⟨us.toArray, ⟨by rw [List.size_toArray, ← hN, r.length], n, h1⟩, fun y hy Q' hq => ?_⟩
  obtain ⟨z, hz1, ry⟩ := vals_mem r y (by simpa using hy)
  obtain ⟨⟨dx, fs, ea⟩, eb, hsp⟩ := hv z hz1
  obtain ⟨hne, go⟩ := eqB_right (Er := X.xe) at_ hfn Fn hr.in1 I'.env0.in1 hb (fun e s'' => hx pins σ _ s' e s'' I') I' ea ry eb hsp
  unfold eqBool
  refine wpAny_holding ?_
  rw [hne]
  simp only [Bool.false_eq_true, if_false]
  have fin : wpAny (model X.prog X.w) X.A.in1 (richCompare .Eq y (.ref a) >>= truthOfDropped) Q' X.xe s' := by
    refine wpAny_bind (wpAny_mono go (fun v s'' hv => ?_) fun _ _ z => z)
    obtain ⟨v', H2, I2, r', rfl, j2⟩ := hv
    cases (show v = Value.bool false from r')
    exact wpAny_truthy_bool (hq _ ⟨H2, j2, I2⟩)
  cases y <;> exact fin
end
section
variable {X : Cx} {w : Wd} {E : XK} {k c : Nat} {f : Addr} {fd : FuncData} {ps : List Str} {G : List D → M D}
/-- what __eq__ of an own class says is tested: None, int, str, tuple -/
def plainB : D → Bool
  | .non | .int _ | .str _ | .tup _ => true
  | _ => false
open Classical in
noncomputable def dNotInB (c : Nat) (G : List D → M D) (a b : D) : M D := fun S => match a, b with
  | .ins c' fs, .lst ds => if c' = c ∧ ∀ d ∈ ds, plainB d = true ∧ G [.ins c' fs, d] S = .ok (.bl false) S then .ok (.bl true) S else .bad
  | _, _ => .bad
structure NotB (K : Frag) (C f : Addr) : Prop where
  at_ : findIn K (.ref C) "__eq__" = some (some (.ref f))
  fn : isFn K (.ref f) = true
  int : subIn K (.ref C) (.type "int") = some false
  str : subIn K (.ref C) (.type "str") = some false
  non : subIn K (.ref C) (.type "NoneType") = some false
  tup : subIn K (.ref C) (.type "tuple") = some false
theorem RepL.mem {z : Sit} : ∀ {ds : List D} {vs : List V}, RepL w z ds vs → ∀ v ∈ vs, ∃ d ∈ ds, Rep w z d v
  | [], _, r, v, h => by rw [RepL] at r; rw [r] at h; cases h
  | d :: ds, _, r, v, h => by
    rw [RepL] at r
    obtain ⟨u, q, rfl, r1, r2⟩ := r
    rcases List.mem_cons.mp h with rfl | h
    · exact ⟨d, List.mem_cons_self, r1⟩
    · obtain ⟨d', h1, h2⟩ := RepL.mem r2 v h
      exact ⟨d', List.mem_cons_of_mem _ h1, h2⟩
theorem c_notInB (hK : X.K = w.K) (R : NotB X.K (w.cm c) f) (F : FnOk X.prog X.w X.K X.mg X.base (L2.CX X.prog X.w) k f fd ps (spM w 2 G)) (ar : Ar 2 G) (hr : Room (k + 1) X.A) (hb : L2.Binds X.K fd ps []) (hx : Passes (L2.CX X.prog X.w) X E) : Cmp8 X w E .NotIn (dNotInB c G) := by
  have q := op_notInB R.at_ R.fn F hr hb hx
  have R' := R
  rw [hK] at q R'
  refine ⟨_, q, fun z a b x y Q g ra rb o => ?_⟩
  unfold dNotInB at o
  split at o
  · rename_i c' fs ds
    split at o
    · rename_i h
      obtain ⟨rfl, h⟩ := h
      have ra0 := ra
      have rb0 := rb
      rw [Rep] at ra
      rw [Rep] at rb
      obtain ⟨p, dx, us, rfl, _, hp, _⟩ := ra
      obtain ⟨l, vs, rfl, _, hl, rl⟩ := rb
      refine ⟨p, l, vs.length, fun H' => ∃ z1, z1.H = H' ∧ Ex z z1 ∧ Good w z1 ∧ z1.S = z.S, rfl, rfl, ⟨z, rfl, Ex.refl z, g, rfl⟩, fun H' ⟨z1, e1, x1, g1, s1⟩ => ?_, fun H' ⟨z1, e1, x1, g1, s1⟩ => ?_⟩
      · subst e1
        have ra1 := ra0.mono x1.vx
        have rb1 := rb0.mono x1.vx
        have ra2 := ra1
        rw [Rep] at ra2
        rw [Rep] at rb1
        obtain ⟨p', dx', us', e, _, hp', _⟩ := ra2
        cases e
        obtain ⟨l', vs', e, _, hl', rl'⟩ := rb1
        cases e
        refine ⟨vs', by rw [← rl'.length, rl.length], hl', fun v hv => ⟨⟨_, _, hp'⟩, ?_, ?_⟩⟩
        · obtain ⟨d, hd, rd⟩ := RepL.mem rl' v hv
          obtain ⟨hb1, _⟩ := h d hd
          have rd0 := rd
          cases d with
          | non => rw [Rep] at rd; rw [rd]; exact .non R'.non
          | int i => rw [Rep] at rd; rw [rd]; exact .int i R'.int
          | str i => rw [Rep] at rd; rw [rd]; exact .str i R'.str
          | tup es =>
            obtain ⟨q, ws, rfl, hq, _⟩ := asT_at rd (show asT (.tup es) = some es from rfl)
            exact .tup hq (tag_at (cs := []) (fun _ h => by cases h) g1 rd0 rfl rfl) R'.tup
          | _ => cases hb1
        · obtain ⟨d, hd, rd⟩ := RepL.mem rl' v hv
          obtain ⟨_, hg⟩ := h d hd
          refine sp_of ar g1 (RepL.cons ra1 (RepL.cons rd RepL.nil)) ?_
          rw [s1, hg]
          intro z2 e2 x2 g2 v rv
          rw [Rep] at rv
          exact ⟨rv, z2, rfl, x1.trans x2, g2, e2⟩
      · subst e1
        exact (o z1 s1 x1 g1) _ rep_bl
    · exact o.elim
  · exact o.elim
end
end Ol

/-! what a function's run ends with -/
namespace Ol
open PySem PySem.Spec PyProof.Rows L2
abbrev XQ := Nat → List (Str × D) → Store → Prop
def Wp {α : Type} (r : Res α) (Q : α → Store → Prop) (X : XQ) : Prop := match r with
  | .ok a S => Q a S
  | .er c fs S => X c fs S
  | .bad => False
abbrev NoX : XQ := fun _ _ _ => False
section
variable {α β : Type} {r : Res α} {k : α → M β} {Q : β → Store → Prop} {X : XQ} {S S' : Store}
def kW (k : α → M β) (Q : β → Store → Prop) (X : XQ) : α → Store → Prop := fun a S => Wp (k a S) Q X
theorem ap_kW {a : α} : kW k Q X a S = Wp (k a S) Q X := rfl
theorem wp_bd : Wp (bd r k) Q X = Wp r (kW k Q X) X := by cases r <;> rfl
theorem wp_ok {a : β} : Wp (.ok a S) Q X = Q a S := rfl
theorem wp_er {c : Nat} {fs : List (Str × D)} : Wp (.er c fs S : Res β) Q X = X c fs S := rfl
theorem wp_bad : Wp (.bad : Res β) Q X = False := rfl
theorem wp_eq {m : Res β} {a : β} (h : m = .ok a S) (q : Q a S) : Wp m Q X := by rw [h]; exact q
theorem Wp.imp {m : Res β} {Q' : β → Store → Prop} {X' : XQ} (h : Wp m Q X) (i : ∀ a S, Q a S → Q' a S) (j : ∀ c fs S, X c fs S → X' c fs S) : Wp m Q' X' := by
  cases m with
  | ok a S => exact i _ _ h
  | er c fs S => exact j _ _ _ h
  | bad => exact h
theorem Wp.mono {m : Res β} {Q' : β → Store → Prop} (h : Wp m Q X) (i : ∀ a S, Q a S → Q' a S) : Wp m Q' X := h.imp i fun _ _ _ h => h
theorem Wp.noX {m : Res β} (h : Wp m Q NoX) : Wp m Q X := h.imp (fun _ _ h => h) fun _ _ _ h => h.elim
theorem Wp.ok {m : Res β} (h : Wp m Q NoX) : ∃ a S, m = .ok a S ∧ Q a S := by
  cases m with
  | ok a S => exact ⟨a, S, rfl, h⟩
  | er c fs S => exact h.elim
  | bad => exact h.elim
/-! without errors -/
def kNe (Q : α → Store → Prop) : α → Store → Prop := Q
theorem wp_noEr {m : M β} : Wp (noEr m S) Q X = Wp (m S) Q NoX := by
  unfold noEr
  cases m S <;> rfl
/-! alternatives -/
def kAlt (m : M β) (S : Store) (r : Res β) : Res β := match r with
  | .bad => m S
  | r => r
theorem kAlt_ok {m : M β} {a : β} : kAlt m S (.ok a S') = .ok a S' := rfl
theorem kAlt_er {m : M β} {c : Nat} {fs : List (Str × D)} : kAlt m S (.er c fs S') = .er c fs S' := rfl
theorem kAlt_bad {m : M β} : kAlt m S .bad = m S := rfl
theorem x_alt2 {g g' : D → D → M D} {a b : D} : gAlt2 g g' a b S = kAlt (g' a b) S (g a b S) := by unfold gAlt2 kAlt; cases g a b S <;> rfl
theorem x_altF {f g : Env8 → M D} {env : Env8} : fAlt f g env S = kAlt (g env) S (f env S) := by unfold fAlt kAlt; cases f env S <;> rfl
/-! gc -/
theorem wp_gc {m : M D} {Q : D → Store → Prop} (h : Wp (m S) (fun d S' => d.lim S.length = true ∧ (S'.take S.length).all (O.lim S.length) = true ∧ Q d (S'.take S.length)) (fun c fs S' => D.limF S.length fs = true ∧ (S'.take S.length).all (O.lim S.length) = true ∧ X c fs (S'.take S.length))) : Wp (gc m S) Q X := by
  unfold gc
  cases e : m S with
  | ok d S' => rw [e] at h; obtain ⟨h1, h2, h3⟩ := h; dsimp only; rw [if_pos ⟨h1, h2⟩]; exact h3
  | er c fs S' => rw [e] at h; obtain ⟨h1, h2, h3⟩ := h; dsimp only; first | (rw [if_pos ⟨h1, h2⟩]; exact h3) | exact h3
  | bad => rw [e] at h; exact h.elim
end
section
variable {S : Store} {X : XQ} {p : Pat} {b : Env8 → M Fl} {env : Env8} {Q : Fl → Store → Prop}
/-! loops -/
def lpQ (J : Env8 → Store → Prop) (Q : Fl → Store → Prop) : Fl → Store → Prop := fun fl S => match fl with
  | .nx e => J e S
  | .ct e => J e S
  | .bk e => Q (.nx e) S
  | .rt d => Q (.rt d) S
theorem lpQ_nx {J : Env8 → Store → Prop} {e : Env8} : lpQ J Q (.nx e) S = J e S := rfl
theorem lpQ_ct {J : Env8 → Store → Prop} {e : Env8} : lpQ J Q (.ct e) S = J e S := rfl
theorem lpQ_bk {J : Env8 → Store → Prop} {e : Env8} : lpQ J Q (.bk e) S = Q (.nx e) S := rfl
theorem lpQ_rt {J : Env8 → Store → Prop} {d : D} : lpQ J Q (.rt d) S = Q (.rt d) S := rfl
theorem wp_loopA (I : Nat → Env8 → Store → Prop) : ∀ {ds : List D} {k : Nat} {env : Env8} {S : Store}, I k env S → (∀ j d e S, ds[j]? = some d → I (k + j) e S → ∃ e1, bindM p d e S = .ok e1 S ∧ Wp (b e1 S) (lpQ (I (k + j + 1)) Q) X) → (∀ e S, I (k + ds.length) e S → Q (.nx e) S) → Wp (loopF p b ds env S) Q X
  | [], k, env, S, h, _, hd => hd _ _ h
  | d :: ds, k, env, S, h, hs, hd => by
    obtain ⟨e1, h1, h2⟩ := hs 0 d env S rfl h
    rw [x_loop1, h1, bd_ok, wp_bd]
    refine h2.imp (fun fl S1 q => ?_) fun _ _ _ h => h
    have rest : ∀ e, I (k + 1) e S1 → Wp (loopF p b ds e S1) Q X := fun e q => wp_loopA I q (fun j d' e S hj hI => by
      have := hs (j + 1) d' e S (by simpa using hj) (by rw [show k + (j + 1) = k + 1 + j by omega]; exact hI)
      rw [show k + (j + 1) + 1 = k + 1 + j + 1 by omega] at this
      exact this) fun e S q => hd e S (by rw [List.length_cons, show k + (ds.length + 1) = k + 1 + ds.length by omega]; exact q)
    cases fl with
    | nx e => exact rest e q
    | ct e => exact rest e q
    | bk e => exact q
    | rt d => exact q
theorem wp_loop {ds : List D} (I : Nat → Env8 → Store → Prop) (h0 : I 0 env S) (hs : ∀ j d e S, ds[j]? = some d → I j e S → ∃ e1, bindM p d e S = .ok e1 S ∧ Wp (b e1 S) (lpQ (I (j + 1)) Q) X) (hd : ∀ e S, I ds.length e S → Q (.nx e) S) : Wp (loopF p b ds env S) Q X :=
  wp_loopA I (k := 0) h0 (fun j d e S h q => by rw [Nat.zero_add] at q ⊢; exact hs j d e S h q) (by rw [Nat.zero_add]; exact hd)
theorem wp_whileA {t : Env8 → M Bool} (I : Nat → Env8 → Store → Prop) (hs : ∀ m e S, I m e S → Wp (t e S) (fun k S1 => if k = true then Wp (b e S1) (lpQ (fun e' S' => ∃ m', m' < m ∧ I m' e' S') Q) X else Q (.nx e) S1) X) : ∀ {n m : Nat} {env : Env8} {S : Store}, m < n → I m env S → Wp (loopW t b n env S) Q X
  | 0, _, _, _, h, _ => absurd h (Nat.not_lt_zero _)
  | n + 1, m, env, S, hm, h => by
    rw [loopW, bnd_bd, wp_bd]
    refine (hs m env S h).imp (fun k S1 q => ?_) fun _ _ _ h => h
    cases k with
    | false => exact q
    | true =>
      rw [if_pos rfl] at q
      show Wp (((b env).bnd _) S1) Q X
      rw [bnd_bd, wp_bd]
      refine q.imp (fun fl S2 q => ?_) fun _ _ _ h => h
      cases fl with
      | nx e => obtain ⟨m', h1, h2⟩ := q; exact wp_whileA I hs (by omega) h2
      | ct e => obtain ⟨m', h1, h2⟩ := q; exact wp_whileA I hs (by omega) h2
      | bk e => exact q
      | rt d => exact q
/-! comprehensions -/
theorem wp_lcA {t : Env8 → M Bool} {fe : Env8 → M D} (I : Nat → List D → Store → Prop) {Q : List D → Store → Prop} : ∀ {ds acc : List D} {k : Nat} {S : Store}, I k acc S → (∀ j d acc S, ds[j]? = some d → I (k + j) acc S → ∃ e1, bindM p d env S = .ok e1 S ∧ Wp (t e1 S) (fun b S1 => if b = true then Wp (fe e1 S1) (fun y S2 => I (k + j + 1) (acc ++ [y]) S2) NoX else I (k + j + 1) acc S1) NoX) →
    (∀ ys S, I (k + ds.length) (acc ++ ys) S → Q ys S) → Wp (loopC p t fe env ds S) Q NoX
  | [], acc, k, S, h, _, hd => hd [] S (by rw [List.append_nil]; exact h)
  | d :: ds, acc, k, S, h, hs, hd => by
    obtain ⟨e1, h1, h2⟩ := hs 0 d acc S rfl h
    have rest : ∀ {acc' : List D} {S1 : Store} {Q' : List D → Store → Prop}, I (k + 1) acc' S1 → (∀ ys S, I (k + 1 + ds.length) (acc' ++ ys) S → Q' ys S) → Wp (loopC p t fe env ds S1) Q' NoX := fun q hq => wp_lcA I q (fun j d' acc S hj hI => by
      have := hs (j + 1) d' acc S (by simpa using hj) (by rw [show k + (j + 1) = k + 1 + j by omega]; exact hI)
      rw [show k + (j + 1) + 1 = k + 1 + j + 1 by omega] at this
      exact this) hq
    have hl : k + (d :: ds).length = k + 1 + ds.length := by rw [List.length_cons]; omega
    rw [loopC, bnd_bd, h1, bd_ok, bnd_bd, wp_bd]
    refine h2.imp (fun bb S1 q => ?_) fun _ _ _ h => h
    cases bb with
    | false =>
      rw [if_neg (by decide)] at q
      exact rest q fun ys S q => hd ys S (by rw [hl]; exact q)
    | true =>
      rw [if_pos rfl] at q
      show Wp (((fe e1).bnd _) S1) Q NoX
      rw [bnd_bd, wp_bd]
      refine q.imp (fun y S2 q => ?_) fun _ _ _ h => h
      show Wp (((loopC p t fe env ds).bnd _) S2) Q NoX
      rw [bnd_bd, wp_bd]
      exact (rest (Q' := fun ys S => Q (y :: ys) S) q fun ys S q => hd (y :: ys) S (by rw [hl]; simpa using q)).mono fun _ _ q => q
theorem wp_lc {t : Env8 → M Bool} {fe : Env8 → M D} {Q : List D → Store → Prop} {ds : List D} (I : Nat → List D → Store → Prop) (h0 : I 0 [] S) (hs : ∀ j d acc S, ds[j]? = some d → I j acc S → ∃ e1, bindM p d env S = .ok e1 S ∧ Wp (t e1 S) (fun b S1 => if b = true then Wp (fe e1 S1) (fun y S2 => I (j + 1) (acc ++ [y]) S2) NoX else I (j + 1) acc S1) NoX)
    (hd : ∀ ys S, I ds.length ys S → Q ys S) : Wp (noEr (loopC p t fe env ds) S) Q X := by
  rw [wp_noEr]
  exact wp_lcA I (k := 0) h0 (fun j d acc S h q => by rw [Nat.zero_add] at q ⊢; exact hs j d acc S h q) (by rw [Nat.zero_add]; exact fun ys S q => hd ys S (by simpa using q))
end
/-! append -/
section
variable {S : Store} {env : Env8} {fo fe : Env8 → M D}
def k_app1 (fe : Env8 → M D) (env : Env8) : D → M D := fun o S => match o with
  | .loc l => (match S[l]? with
    | some (.lst _) => bd (fe env S) (dApp (.loc l))
    | _ => .bad)
  | _ => .bad
theorem x_app : fApp fo fe env S = bd (fo env S) (k_app1 fe env) := rfl
theorem ap_app1 {l : Nat} : k_app1 fe env (.loc l) S = (match S[l]? with
    | some (.lst _) => bd (fe env S) (dApp (.loc l))
    | _ => .bad) := rfl
end
/-! own things called, heard -/
section
variable {S : Store} {env : Env8} {fo : Env8 → M D} {fs fk : Env8 → M (List D)} {c : Nat} {G : List D → M D} {o : D} {ds : List D}
def k_co2 (c : Nat) (G : List D → M D) (o : D) : List D → M D := fun ds S' => if isC c S' o = true then G (o :: ds) S' else .bad
def k_co1 (c : Nat) (G : List D → M D) (fs : Env8 → M (List D)) (env : Env8) : D → M D := fun o S => if isC c S o = true then bd (fs env S) (k_co2 c G o) else .bad
theorem x_callO : fCallO c G fo fs env S = bd (fo env S) (k_co1 c G fs env) := rfl
theorem ap_co1 : k_co1 c G fs env o S = if isC c S o = true then bd (fs env S) (k_co2 c G o) else .bad := rfl
theorem ap_co2 : k_co2 c G o ds S = if isC c S o = true then G (o :: ds) S else .bad := rfl
theorem isC_ins {c' : Nat} {fs : List (Str × D)} : isC c S (.ins c' fs) = (c' == c) := rfl
def k_mk2 (q : Nat) (is : List Nat) (G : List D → M D) (o : D) : List D → M D := fun ds => if ds.length = q then G (perm is [o] ds) else M.bad
def k_mk1 (m : Str) (c q : Nat) (is : List Nat) (G : List D → M D) (fk : Env8 → M (List D)) (env : Env8) : D → M D := fun o S => match asI S o with
  | some (c', fs) => if c' = c ∧ lookF m fs = none then bd (fk env S) (k_mk2 q is G o) else .bad
  | none => .bad
theorem x_methK {m : Str} {q : Nat} {is : List Nat} : fMethK m c q is G fo fk env S = bd (fo env S) (k_mk1 m c q is G fk env) := rfl
theorem ap_mk1 {m : Str} {q c' : Nat} {is : List Nat} {fs : List (Str × D)} : k_mk1 m c q is G fk env (.ins c' fs) S = if c' = c ∧ lookF m fs = none then bd (fk env S) (k_mk2 q is G (.ins c' fs)) else .bad := rfl
theorem ap_mk2 {q : Nat} {is : List Nat} : k_mk2 q is G o ds S = if ds.length = q then G (perm is [o] ds) S else .bad := by unfold k_mk2; split <;> rfl
def k_kw2 (n m : Nat) (is : List Nat) (ds : List D) : List D → M (List D) := fun es S => if ds.length = n ∧ es.length = m then .ok (perm is ds es) S else .bad
def k_kw1 (n m : Nat) (is : List Nat) (fk : Env8 → M (List D)) (env : Env8) : List D → M (List D) := fun ds S => bd (fk env S) (k_kw2 n m is ds)
theorem x_kw {n m : Nat} {is : List Nat} : fKw n m is fs fk env S = bd (fs env S) (k_kw1 n m is fk env) := by
  unfold fKw
  rw [bnd_bd]
  congr 1
  funext ds S1
  rw [bnd_bd]
  delta k_kw1 k_kw2
  congr 1
  funext es S2
  split <;> rfl
theorem ap_kw1 {n m : Nat} {is : List Nat} : k_kw1 n m is fk env ds S = bd (fk env S) (k_kw2 n m is ds) := rfl
theorem ap_kw2 {n m : Nat} {is : List Nat} {es : List D} : k_kw2 n m is ds es S = if ds.length = n ∧ es.length = m then .ok (perm is ds es) S else .bad := rfl
theorem x_heard {Fh : M D → M D} {fe : Env8 → M D} : fHeard Fh fe env S = noEr (Fh (fe env)) S := rfl
theorem wp_heardA {cs : List Nat} {fr : Env8 → M Fl} {m : M D} {Q : D → Store → Prop} {X : XQ} (h : Wp (m S) (fun d S1 => Q (.lst [d]) S1) (fun c fs S1 => Wp (hTail cs fr c fs S1) Q X)) : Wp (heardA cs fr m S) Q X := by
  unfold heardA
  cases e : m S with
  | ok d S1 => rw [e] at h; exact h
  | er c fs S1 => rw [e] at h; exact h
  | bad => rw [e] at h; exact h.elim
end
end Ol

/-! plain lemmas for all laws -/
namespace Ol
open PySem PySem.Spec PyProof.Rows L2
section
variable {S : Store} {d : D} {p : PyData} {n : Nat} {X : XQ}
theorem e_repr {k : Nat} (h : pyOf S d = some p) (sh : Sh p n k) (hn : n ≤ big) (hk : k ≤ 40) : dRepr [d] S = .ok (.str p.shown) S := by
  unfold dRepr
  simp only [h]
  rw [if_pos ⟨sh.s, sh.h, Nat.le_trans sh.l hn, Nat.le_trans sh.k hk⟩]
theorem pyInts {ns : List Int} : pyOf S (.lst (ns.map D.int)) = some (.list (ns.map PyData.int)) := by
  simp only [pyOf, toPy, toPyL_ints, Option.map]
theorem shInts {ns : List Int} (h : ∀ i ∈ ns, i.natAbs < 10 ^ 75) : Sh (.list (ns.map PyData.int)) (ns.length * 76 + 2 * ns.length + 3) 1 := by
  have := Sh.list (ds := ns.map PyData.int) (n := 76) (k := 0) fun d hd => by
    obtain ⟨i, hi, rfl⟩ := List.mem_map.mp hd
    exact Sh.int (h i hi)
  rw [List.length_map] at this
  exact this
theorem e_reprInts {ns : List Int} (h : ∀ i ∈ ns, i.natAbs < 10 ^ 75) (hl : ns.length ≤ 10000) : dRepr [.lst (ns.map D.int)] S = .ok (.str (PyData.list (ns.map PyData.int)).shown) S :=
  e_repr pyInts (shInts h) (by show _ ≤ 1000000; omega) (by decide)
theorem dq_str {z : Str} : DqT [] S n (.str z) (.str z) := .flat rfl rfl (by simp [eqV])
theorem Clean.pen {P : O} {R : Store} (h : ∀ k, P.lim k = true) (hR : Clean R) : Clean (P :: R) := hR.cons h
end
end Ol

/-! the order of pairs -/
namespace Ol
open PySem PySem.Spec PyProof.Rows L2 PySem.W
theorem lexI (x y : Int) (r t : List (Int ⊕ List Nat)) : PyProof.Rows.lexLt itemOrd (.inl x :: r) (.inl y :: t) = (decide (x < y) || decide (x = y) && PyProof.Rows.lexLt itemOrd r t) := by
  by_cases h : x = y
  · subst h
    rw [lex_self (O := itemOrd)]
    simp
  · rw [lex_diff (O := itemOrd) (by simpa using h)]
    have e : itemOrd.blt (.inl x) (.inl y) = decide (x < y) := rfl
    rw [e, decide_eq_false h, Bool.false_and, Bool.or_false]
theorem lexN : PyProof.Rows.lexLt itemOrd [] [] = false := rfl
theorem lexS (x y : List Nat) (r t : List (Int ⊕ List Nat)) : PyProof.Rows.lexLt itemOrd (.inr x :: r) (.inr y :: t) = (decide (x < y) || decide (x = y) && PyProof.Rows.lexLt itemOrd r t) := by
  by_cases h : x = y
  · subst h
    rw [lex_self (O := itemOrd), decide_eq_false (List.lt_irrefl x), decide_eq_true rfl, Bool.false_or, Bool.true_and]
  · rw [lex_diff (O := itemOrd) (by simpa using h)]
    have e : itemOrd.blt (.inr x) (.inr y) = decide (x < y) := rfl
    rw [e, decide_eq_false h, Bool.false_and, Bool.or_false]
theorem str_eq_cps {a b : Str} : (a.cps.toList = b.cps.toList) = (a = b) := propext ⟨fun h => by cases a; cases b; simp only [Str.mk.injEq]; exact Array.toList_inj.mp h, fun h => by rw [h]⟩
theorem lt_is {i j : Int} {a b : Str} : dataLt (.tuple [.int i, .str a]) (.tuple [.int j, .str b]) = (decide (i < j) || decide (i = j) && ltS a b) := by
  show PyProof.Rows.lexLt itemOrd (.inl 1 :: .inl i :: .inl 1 :: .inr a.cps.toList :: .inl 0 :: []) (.inl 1 :: .inl j :: .inl 1 :: .inr b.cps.toList :: .inl 0 :: []) = _
  rw [lexI, lexI, lexI, lexS, lexI, lexN]
  simp [ltS]
theorem lt_ii {i j k l : Int} : dataLt (.tuple [.int i, .int k]) (.tuple [.int j, .int l]) = (decide (i < j) || decide (i = j) && decide (k < l)) := by
  show PyProof.Rows.lexLt itemOrd (.inl 1 :: .inl i :: .inl 1 :: .inl k :: .inl 0 :: []) (.inl 1 :: .inl j :: .inl 1 :: .inl l :: .inl 0 :: []) = _
  rw [lexI, lexI, lexI, lexI, lexI, lexN]
  simp
end Ol

/-! stairs: the plain arithmetic -/
namespace Ol
def cle : List Int → Int → Int
  | [], _ => 0
  | r :: L, t => (if r ≤ t then 1 else 0) + cle L t
theorem cle_filter : ∀ (L : List Int) (t : Int), ((L.filter fun r => decide (r ≤ t)).length : Int) = cle L t
  | [], _ => rfl
  | r :: L, t => by
    have ih := cle_filter L t
    by_cases h : r ≤ t
    · simp only [List.filter_cons, h, decide_true, if_true, List.length_cons, cle]; omega
    · simp only [List.filter_cons, h, decide_false, Bool.false_eq_true, if_false, cle]; omega
def sts : Int → List Int → Int → Int
  | _, [], _ => 0
  | n, r :: L, p => ((p - r) / n + 1) + sts n L p
def stv (g n : Int) (L : List Int) (p : Int) : Int := g + sts n L p
/-- rises of a day of n -/
def Rs (n : Int) (L : List Int) : Prop := ∀ r ∈ L, 1 ≤ r ∧ r ≤ n
theorem Rs.tl {n r : Int} {L : List Int} (h : Rs n (r :: L)) : Rs n L := fun x hx => h x (List.mem_cons_of_mem _ hx)
theorem div01 {n d : Int} (hn : 0 < n) (h0 : -n ≤ d) (h1 : d < n) : d / n = if 0 ≤ d then 0 else -1 := by
  by_cases h : 0 ≤ d
  · rw [if_pos h]; exact Int.ediv_eq_zero_of_lt h h1
  · rw [if_neg h]
    have e : d = (d + n) + -1 * n := by omega
    rw [e, Int.add_mul_ediv_right _ _ (by omega), Int.ediv_eq_zero_of_lt (by omega) (by omega)]; rfl
theorem sts_at {n : Int} (hn : 0 < n) (q t : Int) (h0 : 0 ≤ t) (h1 : t ≤ n) : ∀ {L : List Int}, Rs n L → sts n L (q * n + t) = q * L.length + cle L t
  | [], _ => by simp [sts, cle]
  | r :: L, h => by
    have ih := sts_at hn q t h0 h1 h.tl
    have hr := h r List.mem_cons_self
    have e : (q * n + t - r) / n = q + (t - r) / n := by
      rw [show q * n + t - r = (t - r) + q * n by omega, Int.add_mul_ediv_right _ _ (by omega)]; omega
    simp only [sts, cle, List.length_cons]
    rw [e, ih, div01 hn (by omega) (by omega)]
    have e2 : q * ((L.length + 1 : Nat) : Int) = q * L.length + q := by push_cast; rw [Int.mul_add, Int.mul_one]
    rw [e2]
    by_cases h2 : r ≤ t
    · rw [if_pos (by omega), if_pos h2]; omega
    · rw [if_neg (by omega), if_neg h2]; omega
theorem stv_call {g n m : Int} (hn : 0 < n) {L : List Int} (h : Rs n L) : g + m / n * L.length + cle L (m % n) = stv g n L m := by
  have e : m = m / n * n + m % n := by have := Int.mul_ediv_add_emod m n; rw [Int.mul_comm]; omega
  have := sts_at hn (m / n) (m % n) (Int.emod_nonneg _ (by omega)) (by have := Int.emod_lt_of_pos m hn; omega) h
  rw [← e] at this
  unfold stv
  omega
theorem stv_zero {g n : Int} (hn : 0 < n) {L : List Int} (h : Rs n L) : stv g n L 0 = g := by
  have := sts_at hn 0 0 (by omega) (by omega) h
  have c0 : ∀ {L : List Int}, Rs n L → cle L 0 = 0 := fun {L} => by
    induction L with
    | nil => intro _; rfl
    | cons r L ih => intro h; have := h r List.mem_cons_self; simp only [cle]; rw [if_neg (by omega), ih h.tl]; rfl
  rw [c0 h] at this
  unfold stv
  simp at this
  omega
/-- rises at one moment -/
def hits (n : Int) : List Int → Int → Int
  | [], _ => 0
  | r :: L, m => (if (m - r) % n = 0 ∧ m ≥ r then 1 else 0) + hits n L m
theorem hits_filter (n m : Int) : ∀ (L : List Int), ((L.filter fun r => decide ((m - r) % n = 0) && decide (m ≥ r)).length : Int) = hits n L m
  | [] => rfl
  | r :: L => by
    have ih := hits_filter n m L
    by_cases h : (m - r) % n = 0 ∧ m ≥ r
    · have h' : (decide ((m - r) % n = 0) && decide (m ≥ r)) = true := by simp [h.1, h.2]
      rw [List.filter_cons, if_pos h', hits, if_pos h, List.length_cons]; omega
    · have h' : (decide ((m - r) % n = 0) && decide (m ≥ r)) = false := by
        cases z : (decide ((m - r) % n = 0) && decide (m ≥ r)) with
        | false => rfl
        | true => simp at z; exact absurd z h
      rw [List.filter_cons, if_neg (by rw [h']; exact Bool.false_ne_true), hits, if_neg h]; omega
theorem div_step {n d : Int} (hn : 0 < n) : d / n - (d - 1) / n = if d % n = 0 then 1 else 0 := by
  have e := Int.mul_ediv_add_emod d n
  have l0 := Int.emod_nonneg d (show n ≠ 0 by omega)
  have l1 := Int.emod_lt_of_pos d hn
  by_cases h : d % n = 0
  · rw [if_pos h]
    have : d - 1 = (n - 1) + (d / n - 1) * n := by have mc : d / n * n = n * (d / n) := Int.mul_comm ..; rw [Int.sub_mul]; omega
    have z : (n - 1) / n = 0 := Int.ediv_eq_zero_of_lt (by omega) (by omega)
    have y : (d - 1) / n = (n - 1) / n + (d / n - 1) := by
      conv => lhs; rw [this]
      exact Int.add_mul_ediv_right _ _ (by omega)
    omega
  · rw [if_neg h]
    have : d - 1 = (d % n - 1) + (d / n) * n := by have mc : d / n * n = n * (d / n) := Int.mul_comm ..; omega
    have z : (d % n - 1) / n = 0 := Int.ediv_eq_zero_of_lt (by omega) (by omega)
    have y : (d - 1) / n = (d % n - 1) / n + d / n := by
      conv => lhs; rw [this]
      exact Int.add_mul_ediv_right _ _ (by omega)
    omega
theorem sts_step {n m : Int} (hn : 0 < n) (hm : 1 ≤ m) : ∀ {L : List Int}, Rs n L → sts n L m = sts n L (m - 1) + hits n L m
  | [], _ => rfl
  | r :: L, h => by
    have ih := sts_step hn hm h.tl
    have hr := h r List.mem_cons_self
    have d := div_step (n := n) (d := m - r) hn
    simp only [sts, hits]
    rw [show m - 1 - r = m - r - 1 by omega, ih]
    by_cases h2 : (m - r) % n = 0
    · have h3 : m ≥ r := by
        by_cases h4 : r ≤ m
        · exact h4
        · have e := Int.mul_ediv_add_emod (m - r) n
          have : (m - r) / n = -1 := by rw [div01 hn (by omega) (by omega), if_neg (by omega)]
          rw [this, h2] at e
          omega
      rw [if_pos h2] at d
      rw [if_pos ⟨h2, h3⟩]
      omega
    · rw [if_neg h2] at d
      rw [if_neg (fun z => h2 z.1)]
      omega
theorem stv_step {g n m : Int} (hn : 0 < n) (hm : 1 ≤ m) {L : List Int} (h : Rs n L) : stv g n L m = stv g n L (m - 1) + hits n L m := by
  unfold stv
  rw [sts_step hn hm h]
  omega
theorem sts_mono {n p q : Int} (hn : 0 < n) (h : p ≤ q) : ∀ {L : List Int}, sts n L p ≤ sts n L q
  | [] => Int.le_refl _
  | r :: L => by
    have ih := sts_mono hn h (L := L)
    have := Int.ediv_le_ediv hn (show p - r ≤ q - r by omega)
    simp only [sts]
    omega
theorem stv_mono {g n p q : Int} {L : List Int} (hn : 0 < n) (h : p ≤ q) : stv g n L p ≤ stv g n L q := by
  have := sts_mono (L := L) hn h
  unfold stv
  omega
def Srt (L : List Int) : Prop := L.Pairwise (· ≤ ·)
theorem cle_nonneg : ∀ (L : List Int) (t : Int), 0 ≤ cle L t
  | [], _ => Int.le_refl _
  | r :: L, t => by have := cle_nonneg L t; simp only [cle]; split <;> omega
theorem cle_le : ∀ (L : List Int) (t : Int), cle L t ≤ L.length
  | [], _ => Int.le_refl _
  | r :: L, t => by have := cle_le L t; simp only [cle, List.length_cons]; split <;> omega
theorem cle_all {t : Int} : ∀ {L : List Int}, (∀ r ∈ L, r ≤ t) → cle L t = L.length
  | [], _ => rfl
  | r :: L, h => by
    have := cle_all (L := L) fun x hx => h x (List.mem_cons_of_mem _ hx)
    simp only [cle, List.length_cons, if_pos (h r List.mem_cons_self), this]; omega
theorem cle_none {t : Int} : ∀ {L : List Int}, (∀ r ∈ L, t < r) → cle L t = 0
  | [], _ => rfl
  | r :: L, h => by
    have := cle_none (L := L) fun x hx => h x (List.mem_cons_of_mem _ hx)
    have := h r List.mem_cons_self
    simp only [cle]
    rw [if_neg (by omega)]; omega
theorem cle_hi : ∀ {L : List Int} {i : Nat} {x : Int}, Srt L → L[i]? = some x → (i : Int) + 1 ≤ cle L x
  | [], _, _, _, h => by cases h
  | r :: L, 0, x, s, h => by
    cases h
    have := cle_nonneg L r
    simp only [cle, Int.le_refl, if_true]; omega
  | r :: L, i + 1, x, s, h => by
    have h' : L[i]? = some x := h
    obtain ⟨s1, s2⟩ := List.pairwise_cons.mp s
    have := cle_hi s2 h'
    have := s1 x (List.mem_of_getElem? h')
    simp only [cle]
    rw [if_pos this]; omega
theorem cle_lo : ∀ {L : List Int} {i : Nat} {x : Int}, Srt L → L[i]? = some x → cle L (x - 1) ≤ i
  | [], _, _, _, h => by cases h
  | r :: L, 0, x, s, h => by
    cases h
    obtain ⟨s1, s2⟩ := List.pairwise_cons.mp s
    have := cle_none (L := L) (t := r - 1) fun y hy => by have := s1 y hy; omega
    simp only [cle]
    rw [if_neg (by omega), this]; omega
  | r :: L, i + 1, x, s, h => by
    have h' : L[i]? = some x := h
    obtain ⟨s1, s2⟩ := List.pairwise_cons.mp s
    have := cle_lo s2 h'
    simp only [cle]
    split <;> omega
/-- the greatest pause at which the stair is at most c -/
theorem lp_spec {g n c x : Int} {L : List Int} (hn : 0 < n) (h : Rs n L) (s : Srt L) (hc : g ≤ c) (hk : L ≠ []) (hx : L[((c - g) % (L.length : Int)).toNat]? = some x) :
    0 ≤ x + n * ((c - g) / (L.length : Int)) - 1 ∧ stv g n L (x + n * ((c - g) / (L.length : Int)) - 1) ≤ c ∧ c < stv g n L (x + n * ((c - g) / (L.length : Int)) - 1 + 1) := by
  have kp : 0 < (L.length : Int) := by
    cases L with
    | nil => exact absurd rfl hk
    | cons a b => simp only [List.length_cons]; omega
  have hr := h x (List.mem_of_getElem? hx)
  have e := Int.mul_ediv_add_emod (c - g) (L.length : Int)
  have l0 := Int.emod_nonneg (c - g) (show (L.length : Int) ≠ 0 by omega)
  have q0 : 0 ≤ (c - g) / (L.length : Int) := Int.ediv_nonneg (by omega) (by omega)
  generalize hq : (c - g) / (L.length : Int) = q at *
  generalize hi : (c - g) % (L.length : Int) = i at *
  have e1 := sts_at hn q (x - 1) (by omega) (by omega) h
  have e2 := sts_at hn q x (by omega) (by omega) h
  have hi' := cle_hi s hx
  have lo' := cle_lo s hx
  have i2 : ((i.toNat : Nat) : Int) = i := Int.toNat_of_nonneg l0
  have nq : 0 ≤ n * q := Int.mul_nonneg (by omega) q0
  have m1 : q * n = n * q := Int.mul_comm ..
  have m2 : q * (L.length : Int) = (L.length : Int) * q := Int.mul_comm ..
  refine ⟨by omega, ?_, ?_⟩
  · rw [show x + n * q - 1 = q * n + (x - 1) by omega]
    unfold stv
    omega
  · rw [show x + n * q - 1 + 1 = q * n + x by omega]
    unfold stv
    omega
theorem lp_uniq {g n c p q : Int} {L : List Int} (hn : 0 < n) (h1 : stv g n L p ≤ c) (h2 : c < stv g n L (p + 1)) (h3 : stv g n L q ≤ c) (h4 : c < stv g n L (q + 1)) : p = q := by
  rcases Int.lt_trichotomy p q with h | h | h
  · have := stv_mono (g := g) (L := L) hn (show p + 1 ≤ q by omega); omega
  · exact h
  · have := stv_mono (g := g) (L := L) hn (show q + 1 ≤ p by omega); omega
/-- the difference of two stairs -/
def gap (g n : Int) (L : List Int) (g' : Int) (L' : List Int) (p : Int) : Int := stv g n L p - stv g' n L' p
theorem stv_in {g n t : Int} {L : List Int} (hn : 0 < n) (h : Rs n L) (h0 : 0 ≤ t) (h1 : t ≤ n) : stv g n L t = g + cle L t := by
  have := sts_at hn 0 t h0 h1 h
  simp at this
  unfold stv
  omega
/-- the value of the at-th rise -/
def vAt (g g' : Int) (L' : List Int) (a : Nat) (x : Int) : Int := g + a + 1 - g' - cle L' x
theorem v_le {g g' n x : Int} {L L' : List Int} {a : Nat} (hn : 0 < n) (h : Rs n L) (h' : Rs n L') (s : Srt L) (hx : L[a]? = some x) : vAt g g' L' a x ≤ gap g n L g' L' x := by
  have hr := h x (List.mem_of_getElem? hx)
  have := cle_hi s hx
  unfold vAt gap
  rw [stv_in hn h (by omega) hr.2, stv_in hn h' (by omega) hr.2]
  omega
theorem cle_last : ∀ {L : List Int} {t : Int}, Srt L → 0 < cle L t → ∃ (a : Nat) (x : Int), L[a]? = some x ∧ x ≤ t ∧ (a : Int) + 1 = cle L t
  | [], _, _, h => by simp [cle] at h
  | r :: L, t, s, h => by
    obtain ⟨s1, s2⟩ := List.pairwise_cons.mp s
    by_cases hr : r ≤ t
    · by_cases h0 : 0 < cle L t
      · obtain ⟨a, x, h1, h2, h3⟩ := cle_last s2 h0
        refine ⟨a + 1, x, h1, h2, ?_⟩
        simp only [cle, if_pos hr]; omega
      · have := cle_nonneg L t
        refine ⟨0, r, rfl, hr, ?_⟩
        simp only [cle, if_pos hr]; omega
    · have := cle_none (L := L) (t := t) fun y hy => by have := s1 y hy; omega
      simp only [cle, if_neg hr] at h
      omega
theorem cle_mono {L : List Int} {s t : Int} (h : s ≤ t) : cle L s ≤ cle L t := by
  induction L with
  | nil => exact Int.le_refl _
  | cons r L ih => simp only [cle]; split <;> split <;> omega
theorem gap_le {g g' n b : Int} {L L' : List Int} (hn : 0 < n) (h : Rs n L) (h' : Rs n L') (s : Srt L) (hk : (L.length : Int) ≤ L'.length) (h0 : g - g' ≤ b) (hv : ∀ (a : Nat) x, L[a]? = some x → x < n → vAt g g' L' a x ≤ b) {p : Int} (p0 : 0 ≤ p) (p1 : p ≤ n) : gap g n L g' L' p ≤ b := by
  unfold gap
  rw [stv_in hn h p0 p1, stv_in hn h' p0 p1]
  have := cle_nonneg L' p
  by_cases z : 0 < cle L p
  · by_cases pn : p < n
    · obtain ⟨a, x, h1, h2, h3⟩ := cle_last s z
      have := hv a x h1 (by omega)
      unfold vAt at this
      have := cle_mono (L := L') h2
      omega
    · have e : p = n := by omega
      have a1 := cle_all (L := L) (t := p) fun r hr => by have := h r hr; omega
      have a2 := cle_all (L := L') (t := p) fun r hr => by have := h' r hr; omega
      omega
  · have := cle_nonneg L p
    omega
end Ol

namespace Ol
open PySem L2 LamX
noncomputable section
def top (i : Nat) : Stmt := PySem.Challenge.pw_onelongturn_k54_stairs_of_parts.main.body.getD i (.Pass ⟨0, 0, 0, 0⟩)
abbrev s_BadNumber_init : Stmt := inClass (top 6) 0
abbrev s_BadAsk_init : Stmt := inClass (top 7) 0
abbrev s_Unlike_init : Stmt := inClass (top 8) 0
abbrev s_pen : Stmt := top 12
abbrev s_draw : Stmt := top 13
abbrev s_pick : Stmt := top 14
abbrev s_parts : Stmt := top 15
abbrev s_Stair_init : Stmt := inClass (top 10) 0
abbrev s_made : Stmt := top 17
abbrev s_value : Stmt := top 16
abbrev s_Stair_need_like : Stmt := inClass (top 10) 3
abbrev s_Stair_over : Stmt := inClass (top 10) 4
abbrev s_Stair_le : Stmt := inClass (top 10) 6
abbrev s_Stair_sub : Stmt := inClass (top 10) 5
abbrev s_Stair_eq : Stmt := inClass (top 10) 7
abbrev s_two_right : Stmt := top 19
abbrev s_is_integer : Stmt := top 1
abbrev s_Stair_call : Stmt := inClass (top 10) 1
abbrev s_Stair_longest_pause : Stmt := inClass (top 10) 2
abbrev s_one_right : Stmt := top 18
abbrev s_heard : Stmt := top 20
abbrev s_refused_right : Stmt := top 21
abbrev s_law : Stmt := top 22
theorem sc_BadNumber_init : SupScope ["self", "value"] ["self", "value"] (defScope s_BadNumber_init) := ⟨rfl, rfl, rfl, by decide +kernel, rfl, by decide +kernel, by decide +kernel, by decide +kernel, rfl, rfl⟩
theorem sc_BadAsk_init : SupScope ["self", "part"] ["self", "part"] (defScope s_BadAsk_init) := ⟨rfl, rfl, rfl, by decide +kernel, rfl, by decide +kernel, by decide +kernel, by decide +kernel, rfl, rfl⟩
theorem sc_Unlike_init : SupScope ["self", "part"] ["self", "part"] (defScope s_Unlike_init) := ⟨rfl, rfl, rfl, by decide +kernel, rfl, by decide +kernel, by decide +kernel, by decide +kernel, rfl, rfl⟩
theorem sc_pen : FnScope ["_law_script"] ["_law_script"] (defScope s_pen) := ⟨rfl, rfl, rfl, by decide +kernel, rfl, by decide +kernel, by decide +kernel⟩
theorem sc_draw : FnScope ["_law_pen_here", "_law_many", "_law_spot", "_law_cell", "_law_blent", "_law_digit", "_law_great"] ["_law_pen_here", "_law_many"] (defScope s_draw) := ⟨rfl, rfl, rfl, by decide +kernel, rfl, by decide +kernel, by decide +kernel⟩
theorem sc_pick : FnScope ["_law_pen_here", "_law_some"] ["_law_pen_here", "_law_some"] (defScope s_pick) := ⟨rfl, rfl, rfl, by decide +kernel, rfl, by decide +kernel, by decide +kernel⟩
theorem sc_parts : FnScope ["_law_pen_here", "_law_size", "_law_steps_so", "_law_turn"] ["_law_pen_here", "_law_size"] (defScope s_parts) := ⟨rfl, rfl, rfl, by decide +kernel, rfl, by decide +kernel, by decide +kernel⟩
theorem sc_Stair_init : FnScope ["self", "length", "base", "rises", "step"] ["self", "length", "base", "rises", "step"] (defScope s_Stair_init) := ⟨rfl, rfl, rfl, by decide +kernel, rfl, by decide +kernel, by decide +kernel⟩
theorem sc_made : FnScope ["_law_parts_here", "_law_size"] ["_law_parts_here", "_law_size"] (defScope s_made) := ⟨rfl, rfl, rfl, by decide +kernel, rfl, by decide +kernel, by decide +kernel⟩
theorem sc_value : FnScope ["_law_parts_here", "_law_size", "_law_pause", "_law_found", "_law_moment", "_law_ground", "_law_steps_so", "_law_rise"] ["_law_parts_here", "_law_size", "_law_pause"] (defScope s_value) := ⟨rfl, rfl, rfl, by decide +kernel, rfl, by decide +kernel, by decide +kernel⟩
theorem sc_Stair_need_like : FnScope ["self", "other"] ["self", "other"] (defScope s_Stair_need_like) := ⟨rfl, rfl, rfl, by decide +kernel, rfl, by decide +kernel, by decide +kernel⟩
theorem sc_Stair_over : FnScope ["self", "other", "best", "spot", "at", "rise", "value", "later"] ["self", "other"] (defScope s_Stair_over) := ⟨rfl, rfl, rfl, by decide +kernel, rfl, by decide +kernel, by decide +kernel⟩
theorem sc_Stair_le : FnScope ["self", "other"] ["self", "other"] (defScope s_Stair_le) := ⟨rfl, rfl, rfl, by decide +kernel, rfl, by decide +kernel, by decide +kernel⟩
theorem sc_Stair_sub : FnScope ["self", "other"] ["self", "other"] (defScope s_Stair_sub) := ⟨rfl, rfl, rfl, by decide +kernel, rfl, by decide +kernel, by decide +kernel⟩
theorem sc_Stair_eq : FnScope ["self", "other", "mine"] ["self", "other"] (defScope s_Stair_eq) := ⟨rfl, rfl, rfl, by decide +kernel, rfl, by decide +kernel, by decide +kernel⟩
theorem sc_two_right : FnScope ["_law_size", "_law_parts_here", "_law_more", "_law_gaps", "_law_due", "_law_is_like", "_law_one", "_law_other", "_law_pause", "_law_gap"] ["_law_size", "_law_parts_here", "_law_more"] (defScope s_two_right) := ⟨rfl, rfl, rfl, by decide +kernel, rfl, by decide +kernel, by decide +kernel⟩
theorem sc_is_integer : FnScope ["value"] ["value"] (defScope s_is_integer) := ⟨rfl, rfl, rfl, by decide +kernel, rfl, by decide +kernel, by decide +kernel⟩
theorem sc_Stair_call : FnScope ["self", "m", "days", "rest", "rise"] ["self", "m"] (defScope s_Stair_call) := ⟨rfl, rfl, rfl, by decide +kernel, rfl, by decide +kernel, by decide +kernel⟩
theorem sc_Stair_longest_pause : FnScope ["self", "number", "over"] ["self", "number"] (defScope s_Stair_longest_pause) := ⟨rfl, rfl, rfl, by decide +kernel, rfl, by decide +kernel, by decide +kernel⟩
theorem sc_one_right : FnScope ["_law_pen_here", "_law_size", "_law_parts_here", "_law_values", "_law_days", "_law_count", "_law_far", "_law_spot", "_law_made_here", "_law_ground", "_law_many", "_law_due", "_law_pause"] ["_law_pen_here", "_law_size", "_law_parts_here"] (defScope s_one_right) := ⟨rfl, rfl, rfl, by decide +kernel, rfl, by decide +kernel, by decide +kernel⟩
theorem sc_heard : FnScope ["_law_ask", "_law_caught", "error"] ["_law_ask"] (defScope s_heard) := ⟨rfl, rfl, rfl, by decide +kernel, rfl, by decide +kernel, by decide +kernel⟩
theorem sc_refused_right : FnScope ["_law_pen_here", "_law_size", "_law_parts_here", "_law_odd", "_law_strange", "_law_heard_here", "_law_one", "_law_far"] ["_law_pen_here", "_law_size", "_law_parts_here"] (defScope s_refused_right) := ⟨rfl, rfl, rfl, by decide +kernel, rfl, by decide +kernel, by decide +kernel⟩
theorem sc_law : FnScope ["_law_script", "_law_pen_here", "_law_turn", "_law_made_here", "_law_size", "_law_more", "_law_parts_here"] ["_law_script"] (defScope s_law) := ⟨rfl, rfl, rfl, by decide +kernel, rfl, by decide +kernel, by decide +kernel⟩
theorem bt_abs : bootBuiltins "abs" = some (.builtin "abs") := by decide +kernel
theorem bt_bool : bootBuiltins "bool" = some (.type "bool") := by decide +kernel
theorem bt_enumerate : bootBuiltins "enumerate" = some (.type "enumerate") := by decide +kernel
theorem bt_int : bootBuiltins "int" = some (.type "int") := by decide +kernel
theorem bt_isinstance : bootBuiltins "isinstance" = some (.builtin "isinstance") := by decide +kernel
theorem bt_len : bootBuiltins "len" = some (.builtin "len") := by decide +kernel
theorem bt_list : bootBuiltins "list" = some (.type "list") := by decide +kernel
theorem bt_max : bootBuiltins "max" = some (.builtin "max") := by decide +kernel
theorem bt_range : bootBuiltins "range" = some (.type "range") := by decide +kernel
theorem bt_repr : bootBuiltins "repr" = some (.builtin "repr") := by decide +kernel
theorem bt_sorted : bootBuiltins "sorted" = some (.builtin "sorted") := by decide +kernel
theorem bt_tuple : bootBuiltins "tuple" = some (.type "tuple") := by decide +kernel
structure Ad where
  TurnError : Addr
  BadInput : Addr
  Refused : Addr
  BadNumber : Addr
  BadAsk : Addr
  Unlike : Addr
  Stair : Addr
  BadNumber_init : Addr
  BadAsk_init : Addr
  Unlike_init : Addr
  pen : Addr
  draw : Addr
  pick : Addr
  parts : Addr
  Stair_init : Addr
  made : Addr
  value : Addr
  Stair_need_like : Addr
  Stair_over : Addr
  Stair_le : Addr
  Stair_sub : Addr
  Stair_eq : Addr
  two_right : Addr
  is_integer : Addr
  Stair_call : Addr
  Stair_longest_pause : Addr
  one_right : Addr
  heard : Addr
  refused_right : Addr
  law : Addr
  refused_right_c : Addr
  refused_right_p : Addr
structure Fd where
  BadNumber_init : FuncData
  BadAsk_init : FuncData
  Unlike_init : FuncData
  pen : FuncData
  draw : FuncData
  pick : FuncData
  parts : FuncData
  Stair_init : FuncData
  made : FuncData
  value : FuncData
  Stair_need_like : FuncData
  Stair_over : FuncData
  Stair_le : FuncData
  Stair_sub : FuncData
  Stair_eq : FuncData
  two_right : FuncData
  is_integer : FuncData
  Stair_call : FuncData
  Stair_longest_pause : FuncData
  one_right : FuncData
  heard : FuncData
  refused_right : FuncData
  law : FuncData
structure Txt (P : Program) (K : PySem.W.Frag) (mg : Str → Option Value) (A : Ad) (D : Fd) : Prop where
  f_BadNumber_init : FunS P K "__init__" "BadNumber.__init__" s_BadNumber_init A.BadNumber_init D.BadNumber_init A.BadNumber
  b_BadNumber_init : Binds K D.BadNumber_init ["self", "value"] []
  f_BadAsk_init : FunS P K "__init__" "BadAsk.__init__" s_BadAsk_init A.BadAsk_init D.BadAsk_init A.BadAsk
  b_BadAsk_init : Binds K D.BadAsk_init ["self", "part"] []
  f_Unlike_init : FunS P K "__init__" "Unlike.__init__" s_Unlike_init A.Unlike_init D.Unlike_init A.Unlike
  b_Unlike_init : Binds K D.Unlike_init ["self", "part"] []
  m_pen : mg "_law_pen" = some (.ref A.pen)
  f_pen : Fun K "_law_pen" "_law_pen" s_pen A.pen D.pen
  b_pen : Binds K D.pen ["_law_script"] []
  m_draw : mg "_law_draw" = some (.ref A.draw)
  f_draw : Fun K "_law_draw" "_law_draw" s_draw A.draw D.draw
  b_draw : Binds K D.draw ["_law_pen_here", "_law_many"] []
  m_pick : mg "_law_pick" = some (.ref A.pick)
  f_pick : Fun K "_law_pick" "_law_pick" s_pick A.pick D.pick
  b_pick : Binds K D.pick ["_law_pen_here", "_law_some"] []
  m_parts : mg "_law_parts" = some (.ref A.parts)
  f_parts : Fun K "_law_parts" "_law_parts" s_parts A.parts D.parts
  b_parts : Binds K D.parts ["_law_pen_here", "_law_size"] []
  f_Stair_init : Fun K "__init__" "Stair.__init__" s_Stair_init A.Stair_init D.Stair_init
  b_Stair_init : Binds K D.Stair_init ["self", "length", "base", "rises", "step"] []
  m_made : mg "_law_made" = some (.ref A.made)
  f_made : Fun K "_law_made" "_law_made" s_made A.made D.made
  b_made : Binds K D.made ["_law_parts_here", "_law_size"] []
  m_value : mg "_law_value" = some (.ref A.value)
  f_value : Fun K "_law_value" "_law_value" s_value A.value D.value
  b_value : Binds K D.value ["_law_parts_here", "_law_size", "_law_pause"] []
  f_Stair_need_like : Fun K "need_like" "Stair.need_like" s_Stair_need_like A.Stair_need_like D.Stair_need_like
  b_Stair_need_like : Binds K D.Stair_need_like ["self", "other"] []
  f_Stair_over : Fun K "over" "Stair.over" s_Stair_over A.Stair_over D.Stair_over
  b_Stair_over : Binds K D.Stair_over ["self", "other"] []
  f_Stair_le : Fun K "__le__" "Stair.__le__" s_Stair_le A.Stair_le D.Stair_le
  b_Stair_le : Binds K D.Stair_le ["self", "other"] []
  f_Stair_sub : Fun K "__sub__" "Stair.__sub__" s_Stair_sub A.Stair_sub D.Stair_sub
  b_Stair_sub : Binds K D.Stair_sub ["self", "other"] []
  f_Stair_eq : Fun K "__eq__" "Stair.__eq__" s_Stair_eq A.Stair_eq D.Stair_eq
  b_Stair_eq : Binds K D.Stair_eq ["self", "other"] []
  m_two_right : mg "_law_two_right" = some (.ref A.two_right)
  f_two_right : Fun K "_law_two_right" "_law_two_right" s_two_right A.two_right D.two_right
  b_two_right : Binds K D.two_right ["_law_size", "_law_parts_here", "_law_more"] []
  m_is_integer : mg "is_integer" = some (.ref A.is_integer)
  f_is_integer : Fun K "is_integer" "is_integer" s_is_integer A.is_integer D.is_integer
  b_is_integer : Binds K D.is_integer ["value"] []
  f_Stair_call : Fun K "__call__" "Stair.__call__" s_Stair_call A.Stair_call D.Stair_call
  b_Stair_call : Binds K D.Stair_call ["self", "m"] []
  f_Stair_longest_pause : Fun K "longest_pause" "Stair.longest_pause" s_Stair_longest_pause A.Stair_longest_pause D.Stair_longest_pause
  b_Stair_longest_pause : Binds K D.Stair_longest_pause ["self", "number"] []
  m_one_right : mg "_law_one_right" = some (.ref A.one_right)
  f_one_right : Fun K "_law_one_right" "_law_one_right" s_one_right A.one_right D.one_right
  b_one_right : Binds K D.one_right ["_law_pen_here", "_law_size", "_law_parts_here"] []
  m_heard : mg "_law_heard" = some (.ref A.heard)
  f_heard : Fun K "_law_heard" "_law_heard" s_heard A.heard D.heard
  b_heard : Binds K D.heard ["_law_ask"] []
  m_refused_right : mg "_law_refused_right" = some (.ref A.refused_right)
  f_refused_right : FunL K "_law_refused_right" "_law_refused_right" s_refused_right A.refused_right D.refused_right A.refused_right_c
  b_refused_right : Binds K D.refused_right ["_law_pen_here", "_law_size", "_law_parts_here"] []
  m_law : mg "law" = some (.ref A.law)
  f_law : Fun K "law" "law" s_law A.law D.law
  b_law : Binds K D.law ["_law_script"] []
  m_TurnError : mg "TurnError" = some (.ref A.TurnError)
  m_BadInput : mg "BadInput" = some (.ref A.BadInput)
  m_Refused : mg "Refused" = some (.ref A.Refused)
  m_BadNumber : mg "BadNumber" = some (.ref A.BadNumber)
  m_BadAsk : mg "BadAsk" = some (.ref A.BadAsk)
  m_Unlike : mg "Unlike" = some (.ref A.Unlike)
  m_Stair : mg "Stair" = some (.ref A.Stair)
  cl_Stair : Cls K A.Stair
  mk_Stair : Mk K A.Stair A.Stair_init
  na_Stair_base : NoAttr K A.Stair "base"
  na_Stair_length : NoAttr K A.Stair "length"
  na_Stair_rises : NoAttr K A.Stair "rises"
  na_Stair_step : NoAttr K A.Stair "step"
  me_Stair_need_like : Meth K A.Stair "need_like" A.Stair_need_like
  me_Stair_over : Meth K A.Stair "over" A.Stair_over
  me_Stair_le : Meth K A.Stair "__le__" A.Stair_le
  me_Stair_sub : Meth K A.Stair "__sub__" A.Stair_sub
  me_Stair_eq : Meth K A.Stair "__eq__" A.Stair_eq
  me_Stair_call : Meth K A.Stair "__call__" A.Stair_call
  me_Stair_longest_pause : Meth K A.Stair "longest_pause" A.Stair_longest_pause
  ow_Stair_Sub_NoneType : OwnOf K A.Stair .Sub "NoneType" A.Stair_sub
  ow_Stair_Sub_bool : OwnOf K A.Stair .Sub "bool" A.Stair_sub
  ow_Stair_Sub_dict : OwnOf K A.Stair .Sub "dict" A.Stair_sub
  ow_Stair_Sub_int : OwnOf K A.Stair .Sub "int" A.Stair_sub
  ow_Stair_Sub_list : OwnOf K A.Stair .Sub "list" A.Stair_sub
  ow_Stair_Sub_str : OwnOf K A.Stair .Sub "str" A.Stair_sub
  ow_Stair_Sub_tuple : OwnOf K A.Stair .Sub "tuple" A.Stair_sub
  co_Stair_Eq : CmpOf K A.Stair .Eq A.Stair_eq
  co_Stair_LtE : CmpOf K A.Stair .LtE A.Stair_le
  ne_Stair : NeOf K A.Stair A.Stair_eq
  is_Stair : IsC K A.Stair
  er_BadNumber : ErrT K A.BadNumber A.BadNumber_init
  er_BadAsk : ErrT K A.BadAsk A.BadAsk_init
  er_Unlike : ErrT K A.Unlike A.Unlike_init
  nf_BadAsk_part : PySem.W.findIn K (.ref A.BadAsk) "part" = some none
  nf_BadNumber_value : PySem.W.findIn K (.ref A.BadNumber) "value" = some none
  nf_Unlike_part : PySem.W.findIn K (.ref A.Unlike) "part" = some none
  ms : mg "super" = none
  op : PySem.W.nsIn K cStatics "thirdparty.any" = some none
  n_abs : mg "abs" = none
  n_bool : mg "bool" = none
  n_enumerate : mg "enumerate" = none
  n_int : mg "int" = none
  n_isinstance : mg "isinstance" = none
  n_len : mg "len" = none
  n_list : mg "list" = none
  n_max : mg "max" = none
  n_range : mg "range" = none
  n_repr : mg "repr" = none
  n_sorted : mg "sorted" = none
  n_tuple : mg "tuple" = none
  x_sf_Stair : PySem.W.selfFirst K A.Stair = true
  x_od_Stair_Sub : PySem.W.findIn K (.ref A.Stair) (PySem.dunder "sub") = some (some (.ref A.Stair_sub))
  x_if_Stair_sub : PySem.W.isFn K (.ref A.Stair_sub) = true
  x_fn_Stair_call : PySem.W.fnIn K A.Stair_call = true
  x_od_Stair_Eq : PySem.W.findIn K (.ref A.Stair) "__eq__" = some (some (.ref A.Stair_eq))
  x_if_Stair_eq : PySem.W.isFn K (.ref A.Stair_eq) = true
  x_sb_Stair_int : PySem.W.subIn K (.ref A.Stair) (.type "int") = some false
  x_sb_Stair_str : PySem.W.subIn K (.ref A.Stair) (.type "str") = some false
  x_sb_Stair_NoneType : PySem.W.subIn K (.ref A.Stair) (.type "NoneType") = some false
  x_sb_Stair_tuple : PySem.W.subIn K (.ref A.Stair) (.type "tuple") = some false
  kq_tNoneType_BadAsk : PySem.W.kitOne K (.type "NoneType") (.ref A.BadAsk) = some false
  kq_tbool_BadAsk : PySem.W.kitOne K (.type "bool") (.ref A.BadAsk) = some false
  kq_tint_BadAsk : PySem.W.kitOne K (.type "int") (.ref A.BadAsk) = some false
  kq_tstr_BadAsk : PySem.W.kitOne K (.type "str") (.ref A.BadAsk) = some false
  kq_tlist_BadAsk : PySem.W.kitOne K (.type "list") (.ref A.BadAsk) = some false
  kq_ttuple_BadAsk : PySem.W.kitOne K (.type "tuple") (.ref A.BadAsk) = some false
  kq_tdict_BadAsk : PySem.W.kitOne K (.type "dict") (.ref A.BadAsk) = some false
  kq_Stair_BadAsk : PySem.W.kitOne K (.ref A.Stair) (.ref A.BadAsk) = some false
  kq_BadNumber_BadAsk : PySem.W.kitOne K (.ref A.BadNumber) (.ref A.BadAsk) = some false
  kq_BadAsk_BadAsk : PySem.W.kitOne K (.ref A.BadAsk) (.ref A.BadAsk) = some true
  kq_Unlike_BadAsk : PySem.W.kitOne K (.ref A.Unlike) (.ref A.BadAsk) = some false
  kq_tNoneType_BadInput : PySem.W.kitOne K (.type "NoneType") (.ref A.BadInput) = some false
  kq_tbool_BadInput : PySem.W.kitOne K (.type "bool") (.ref A.BadInput) = some false
  kq_tint_BadInput : PySem.W.kitOne K (.type "int") (.ref A.BadInput) = some false
  kq_tstr_BadInput : PySem.W.kitOne K (.type "str") (.ref A.BadInput) = some false
  kq_tlist_BadInput : PySem.W.kitOne K (.type "list") (.ref A.BadInput) = some false
  kq_ttuple_BadInput : PySem.W.kitOne K (.type "tuple") (.ref A.BadInput) = some false
  kq_tdict_BadInput : PySem.W.kitOne K (.type "dict") (.ref A.BadInput) = some false
  kq_Stair_BadInput : PySem.W.kitOne K (.ref A.Stair) (.ref A.BadInput) = some false
  kq_BadNumber_BadInput : PySem.W.kitOne K (.ref A.BadNumber) (.ref A.BadInput) = some true
  kq_BadAsk_BadInput : PySem.W.kitOne K (.ref A.BadAsk) (.ref A.BadInput) = some true
  kq_Unlike_BadInput : PySem.W.kitOne K (.ref A.Unlike) (.ref A.BadInput) = some false
  kq_tNoneType_BadNumber : PySem.W.kitOne K (.type "NoneType") (.ref A.BadNumber) = some false
  kq_tbool_BadNumber : PySem.W.kitOne K (.type "bool") (.ref A.BadNumber) = some false
  kq_tint_BadNumber : PySem.W.kitOne K (.type "int") (.ref A.BadNumber) = some false
  kq_tstr_BadNumber : PySem.W.kitOne K (.type "str") (.ref A.BadNumber) = some false
  kq_tlist_BadNumber : PySem.W.kitOne K (.type "list") (.ref A.BadNumber) = some false
  kq_ttuple_BadNumber : PySem.W.kitOne K (.type "tuple") (.ref A.BadNumber) = some false
  kq_tdict_BadNumber : PySem.W.kitOne K (.type "dict") (.ref A.BadNumber) = some false
  kq_Stair_BadNumber : PySem.W.kitOne K (.ref A.Stair) (.ref A.BadNumber) = some false
  kq_BadNumber_BadNumber : PySem.W.kitOne K (.ref A.BadNumber) (.ref A.BadNumber) = some true
  kq_BadAsk_BadNumber : PySem.W.kitOne K (.ref A.BadAsk) (.ref A.BadNumber) = some false
  kq_Unlike_BadNumber : PySem.W.kitOne K (.ref A.Unlike) (.ref A.BadNumber) = some false
  kq_tNoneType_Refused : PySem.W.kitOne K (.type "NoneType") (.ref A.Refused) = some false
  kq_tbool_Refused : PySem.W.kitOne K (.type "bool") (.ref A.Refused) = some false
  kq_tint_Refused : PySem.W.kitOne K (.type "int") (.ref A.Refused) = some false
  kq_tstr_Refused : PySem.W.kitOne K (.type "str") (.ref A.Refused) = some false
  kq_tlist_Refused : PySem.W.kitOne K (.type "list") (.ref A.Refused) = some false
  kq_ttuple_Refused : PySem.W.kitOne K (.type "tuple") (.ref A.Refused) = some false
  kq_tdict_Refused : PySem.W.kitOne K (.type "dict") (.ref A.Refused) = some false
  kq_Stair_Refused : PySem.W.kitOne K (.ref A.Stair) (.ref A.Refused) = some false
  kq_BadNumber_Refused : PySem.W.kitOne K (.ref A.BadNumber) (.ref A.Refused) = some false
  kq_BadAsk_Refused : PySem.W.kitOne K (.ref A.BadAsk) (.ref A.Refused) = some false
  kq_Unlike_Refused : PySem.W.kitOne K (.ref A.Unlike) (.ref A.Refused) = some true
  kq_tNoneType_Stair : PySem.W.kitOne K (.type "NoneType") (.ref A.Stair) = some false
  kq_tbool_Stair : PySem.W.kitOne K (.type "bool") (.ref A.Stair) = some false
  kq_tint_Stair : PySem.W.kitOne K (.type "int") (.ref A.Stair) = some false
  kq_tstr_Stair : PySem.W.kitOne K (.type "str") (.ref A.Stair) = some false
  kq_tlist_Stair : PySem.W.kitOne K (.type "list") (.ref A.Stair) = some false
  kq_ttuple_Stair : PySem.W.kitOne K (.type "tuple") (.ref A.Stair) = some false
  kq_tdict_Stair : PySem.W.kitOne K (.type "dict") (.ref A.Stair) = some false
  kq_Stair_Stair : PySem.W.kitOne K (.ref A.Stair) (.ref A.Stair) = some true
  kq_BadNumber_Stair : PySem.W.kitOne K (.ref A.BadNumber) (.ref A.Stair) = some false
  kq_BadAsk_Stair : PySem.W.kitOne K (.ref A.BadAsk) (.ref A.Stair) = some false
  kq_Unlike_Stair : PySem.W.kitOne K (.ref A.Unlike) (.ref A.Stair) = some false
  kq_tNoneType_Unlike : PySem.W.kitOne K (.type "NoneType") (.ref A.Unlike) = some false
  kq_tbool_Unlike : PySem.W.kitOne K (.type "bool") (.ref A.Unlike) = some false
  kq_tint_Unlike : PySem.W.kitOne K (.type "int") (.ref A.Unlike) = some false
  kq_tstr_Unlike : PySem.W.kitOne K (.type "str") (.ref A.Unlike) = some false
  kq_tlist_Unlike : PySem.W.kitOne K (.type "list") (.ref A.Unlike) = some false
  kq_ttuple_Unlike : PySem.W.kitOne K (.type "tuple") (.ref A.Unlike) = some false
  kq_tdict_Unlike : PySem.W.kitOne K (.type "dict") (.ref A.Unlike) = some false
  kq_Stair_Unlike : PySem.W.kitOne K (.ref A.Stair) (.ref A.Unlike) = some false
  kq_BadNumber_Unlike : PySem.W.kitOne K (.ref A.BadNumber) (.ref A.Unlike) = some false
  kq_BadAsk_Unlike : PySem.W.kitOne K (.ref A.BadAsk) (.ref A.Unlike) = some false
  kq_Unlike_Unlike : PySem.W.kitOne K (.ref A.Unlike) (.ref A.Unlike) = some true
  kq_Stair_tbool : PySem.W.kitOne K (.ref A.Stair) (.type "bool") = some false
  kq_BadNumber_tbool : PySem.W.kitOne K (.ref A.BadNumber) (.type "bool") = some false
  kq_BadAsk_tbool : PySem.W.kitOne K (.ref A.BadAsk) (.type "bool") = some false
  kq_Unlike_tbool : PySem.W.kitOne K (.ref A.Unlike) (.type "bool") = some false
  kq_Stair_tint : PySem.W.kitOne K (.ref A.Stair) (.type "int") = some false
  kq_BadNumber_tint : PySem.W.kitOne K (.ref A.BadNumber) (.type "int") = some false
  kq_BadAsk_tint : PySem.W.kitOne K (.ref A.BadAsk) (.type "int") = some false
  kq_Unlike_tint : PySem.W.kitOne K (.ref A.Unlike) (.type "int") = some false
  sb_Stair_tNoneType : PySem.W.subIn K (.type "NoneType") (.ref A.Stair) = some false
  sb_Stair_tbool : PySem.W.subIn K (.type "bool") (.ref A.Stair) = some false
  sb_Stair_tint : PySem.W.subIn K (.type "int") (.ref A.Stair) = some false
  sb_Stair_tstr : PySem.W.subIn K (.type "str") (.ref A.Stair) = some false
  sb_Stair_tlist : PySem.W.subIn K (.type "list") (.ref A.Stair) = some false
  sb_Stair_ttuple : PySem.W.subIn K (.type "tuple") (.ref A.Stair) = some false
  sb_Stair_tdict : PySem.W.subIn K (.type "dict") (.ref A.Stair) = some false
  te_1 : PySem.W.subIn K (.ref A.TurnError) (.type "BaseException") = some true
  te_2 : PySem.W.hasDictIn K A.TurnError = true
  te_3 : PySem.W.typeIn K (.ref A.TurnError) = some (.type "type")
  te_BadNumber : PySem.W.subIn K (.ref A.BadNumber) (.ref A.TurnError) = some true
  te_BadAsk : PySem.W.subIn K (.ref A.BadAsk) (.ref A.TurnError) = some true
  te_Unlike : PySem.W.subIn K (.ref A.Unlike) (.ref A.TurnError) = some true
structure Tbs (base : Heap) (mg : Str → Option Value) (A : Ad) : Prop where
  t_refused_right : LamX.TabB base mg A.refused_right_c A.refused_right_p
def Ts (A : Ad) : List (Addr × Str) := [(A.refused_right_p, ("_law_refused_right" : Str) ++ ".<locals>." ++ "<lambda>")]
theorem ts_refused_right {P : Program} {K : PySem.W.Frag} {mg : Str → Option Value} {A : Ad} {D : Fd} (T : Txt P K mg A D) : ∀ p ∈ Ts A, p.1 = A.refused_right_p → p.2 = ("_law_refused_right" : Str) ++ ".<locals>." ++ "<lambda>" := by
  intro p hp e
  simp only [Ts, List.mem_cons, List.not_mem_nil, or_false] at hp
  rcases hp with rfl
  · rfl
def cmOf (A : Ad) : Nat → Addr
  | 7 => A.TurnError
  | 8 => A.BadInput
  | 9 => A.Refused
  | 12 => A.BadNumber
  | 18 => A.BadAsk
  | 26 => A.Unlike
  | 39 => A.Stair
  | _ => 0
abbrev W8 (K : PySem.W.Frag) (A : Ad) : Wd := ⟨K, cmOf A, Ts A⟩
noncomputable section
def kOwn : List Nat := [39]
def kErs : List Nat := [12, 18, 26]
def kTb : List (Tg × Tg × Bool) := [(.ty "NoneType", .own 18, false), (.ty "bool", .own 18, false), (.ty "int", .own 18, false), (.ty "str", .own 18, false), (.ty "list", .own 18, false), (.ty "tuple", .own 18, false), (.ty "dict", .own 18, false), (.own 39, .own 18, false), (.own 12, .own 18, false), (.own 18, .own 18, true), (.own 26, .own 18, false), (.ty "NoneType", .own 8, false), (.ty "bool", .own 8, false), (.ty "int", .own 8, false), (.ty "str", .own 8, false), (.ty "list", .own 8, false), (.ty "tuple", .own 8, false), (.ty "dict", .own 8, false), (.own 39, .own 8, false), (.own 12, .own 8, true), (.own 18, .own 8, true), (.own 26, .own 8, false), (.ty "NoneType", .own 12, false), (.ty "bool", .own 12, false), (.ty "int", .own 12, false), (.ty "str", .own 12, false), (.ty "list", .own 12, false), (.ty "tuple", .own 12, false), (.ty "dict", .own 12, false), (.own 39, .own 12, false), (.own 12, .own 12, true), (.own 18, .own 12, false), (.own 26, .own 12, false), (.ty "NoneType", .own 9, false), (.ty "bool", .own 9, false), (.ty "int", .own 9, false), (.ty "str", .own 9, false), (.ty "list", .own 9, false), (.ty "tuple", .own 9, false), (.ty "dict", .own 9, false), (.own 39, .own 9, false), (.own 12, .own 9, false), (.own 18, .own 9, false), (.own 26, .own 9, true), (.ty "NoneType", .own 39, false), (.ty "bool", .own 39, false), (.ty "int", .own 39, false), (.ty "str", .own 39, false), (.ty "list", .own 39, false), (.ty "tuple", .own 39, false), (.ty "dict", .own 39, false), (.own 39, .own 39, true), (.own 12, .own 39, false), (.own 18, .own 39, false), (.own 26, .own 39, false), (.ty "NoneType", .own 26, false), (.ty "bool", .own 26, false), (.ty "int", .own 26, false), (.ty "str", .own 26, false), (.ty "list", .own 26, false), (.ty "tuple", .own 26, false), (.ty "dict", .own 26, false), (.own 39, .own 26, false), (.own 12, .own 26, false), (.own 18, .own 26, false), (.own 26, .own 26, true), (.ty "NoneType", .ty "bool", false), (.ty "bool", .ty "bool", true), (.ty "int", .ty "bool", false), (.ty "str", .ty "bool", false), (.ty "list", .ty "bool", false), (.ty "tuple", .ty "bool", false), (.ty "dict", .ty "bool", false), (.own 39, .ty "bool", false), (.own 12, .ty "bool", false), (.own 18, .ty "bool", false), (.own 26, .ty "bool", false), (.ty "NoneType", .ty "int", false), (.ty "bool", .ty "int", true), (.ty "int", .ty "int", true), (.ty "str", .ty "int", false), (.ty "list", .ty "int", false), (.ty "tuple", .ty "int", false), (.ty "dict", .ty "int", false), (.own 39, .ty "int", false), (.own 12, .ty "int", false), (.own 18, .ty "int", false), (.own 26, .ty "int", false)]
theorem kt0 : kitL kTb (.ty "NoneType") (.own 18) = some false := by decide +kernel
theorem kt1 : kitL kTb (.ty "bool") (.own 18) = some false := by decide +kernel
theorem kt2 : kitL kTb (.ty "int") (.own 18) = some false := by decide +kernel
theorem kt3 : kitL kTb (.ty "str") (.own 18) = some false := by decide +kernel
theorem kt4 : kitL kTb (.ty "list") (.own 18) = some false := by decide +kernel
theorem kt5 : kitL kTb (.ty "tuple") (.own 18) = some false := by decide +kernel
theorem kt6 : kitL kTb (.ty "dict") (.own 18) = some false := by decide +kernel
theorem kt7 : kitL kTb (.own 39) (.own 18) = some false := by decide +kernel
theorem kt8 : kitL kTb (.own 12) (.own 18) = some false := by decide +kernel
theorem kt9 : kitL kTb (.own 18) (.own 18) = some true := by decide +kernel
theorem kt10 : kitL kTb (.own 26) (.own 18) = some false := by decide +kernel
theorem kt11 : kitL kTb (.ty "NoneType") (.own 8) = some false := by decide +kernel
theorem kt12 : kitL kTb (.ty "bool") (.own 8) = some false := by decide +kernel
theorem kt13 : kitL kTb (.ty "int") (.own 8) = some false := by decide +kernel
theorem kt14 : kitL kTb (.ty "str") (.own 8) = some false := by decide +kernel
theorem kt15 : kitL kTb (.ty "list") (.own 8) = some false := by decide +kernel
theorem kt16 : kitL kTb (.ty "tuple") (.own 8) = some false := by decide +kernel
theorem kt17 : kitL kTb (.ty "dict") (.own 8) = some false := by decide +kernel
theorem kt18 : kitL kTb (.own 39) (.own 8) = some false := by decide +kernel
theorem kt19 : kitL kTb (.own 12) (.own 8) = some true := by decide +kernel
theorem kt20 : kitL kTb (.own 18) (.own 8) = some true := by decide +kernel
theorem kt21 : kitL kTb (.own 26) (.own 8) = some false := by decide +kernel
theorem kt22 : kitL kTb (.ty "NoneType") (.own 12) = some false := by decide +kernel
theorem kt23 : kitL kTb (.ty "bool") (.own 12) = some false := by decide +kernel
theorem kt24 : kitL kTb (.ty "int") (.own 12) = some false := by decide +kernel
theorem kt25 : kitL kTb (.ty "str") (.own 12) = some false := by decide +kernel
theorem kt26 : kitL kTb (.ty "list") (.own 12) = some false := by decide +kernel
theorem kt27 : kitL kTb (.ty "tuple") (.own 12) = some false := by decide +kernel
theorem kt28 : kitL kTb (.ty "dict") (.own 12) = some false := by decide +kernel
theorem kt29 : kitL kTb (.own 39) (.own 12) = some false := by decide +kernel
theorem kt30 : kitL kTb (.own 12) (.own 12) = some true := by decide +kernel
theorem kt31 : kitL kTb (.own 18) (.own 12) = some false := by decide +kernel
theorem kt32 : kitL kTb (.own 26) (.own 12) = some false := by decide +kernel
theorem kt33 : kitL kTb (.ty "NoneType") (.own 9) = some false := by decide +kernel
theorem kt34 : kitL kTb (.ty "bool") (.own 9) = some false := by decide +kernel
theorem kt35 : kitL kTb (.ty "int") (.own 9) = some false := by decide +kernel
theorem kt36 : kitL kTb (.ty "str") (.own 9) = some false := by decide +kernel
theorem kt37 : kitL kTb (.ty "list") (.own 9) = some false := by decide +kernel
theorem kt38 : kitL kTb (.ty "tuple") (.own 9) = some false := by decide +kernel
theorem kt39 : kitL kTb (.ty "dict") (.own 9) = some false := by decide +kernel
theorem kt40 : kitL kTb (.own 39) (.own 9) = some false := by decide +kernel
theorem kt41 : kitL kTb (.own 12) (.own 9) = some false := by decide +kernel
theorem kt42 : kitL kTb (.own 18) (.own 9) = some false := by decide +kernel
theorem kt43 : kitL kTb (.own 26) (.own 9) = some true := by decide +kernel
theorem kt44 : kitL kTb (.ty "NoneType") (.own 39) = some false := by decide +kernel
theorem kt45 : kitL kTb (.ty "bool") (.own 39) = some false := by decide +kernel
theorem kt46 : kitL kTb (.ty "int") (.own 39) = some false := by decide +kernel
theorem kt47 : kitL kTb (.ty "str") (.own 39) = some false := by decide +kernel
theorem kt48 : kitL kTb (.ty "list") (.own 39) = some false := by decide +kernel
theorem kt49 : kitL kTb (.ty "tuple") (.own 39) = some false := by decide +kernel
theorem kt50 : kitL kTb (.ty "dict") (.own 39) = some false := by decide +kernel
theorem kt51 : kitL kTb (.own 39) (.own 39) = some true := by decide +kernel
theorem kt52 : kitL kTb (.own 12) (.own 39) = some false := by decide +kernel
theorem kt53 : kitL kTb (.own 18) (.own 39) = some false := by decide +kernel
theorem kt54 : kitL kTb (.own 26) (.own 39) = some false := by decide +kernel
theorem kt55 : kitL kTb (.ty "NoneType") (.own 26) = some false := by decide +kernel
theorem kt56 : kitL kTb (.ty "bool") (.own 26) = some false := by decide +kernel
theorem kt57 : kitL kTb (.ty "int") (.own 26) = some false := by decide +kernel
theorem kt58 : kitL kTb (.ty "str") (.own 26) = some false := by decide +kernel
theorem kt59 : kitL kTb (.ty "list") (.own 26) = some false := by decide +kernel
theorem kt60 : kitL kTb (.ty "tuple") (.own 26) = some false := by decide +kernel
theorem kt61 : kitL kTb (.ty "dict") (.own 26) = some false := by decide +kernel
theorem kt62 : kitL kTb (.own 39) (.own 26) = some false := by decide +kernel
theorem kt63 : kitL kTb (.own 12) (.own 26) = some false := by decide +kernel
theorem kt64 : kitL kTb (.own 18) (.own 26) = some false := by decide +kernel
theorem kt65 : kitL kTb (.own 26) (.own 26) = some true := by decide +kernel
theorem kt66 : kitL kTb (.ty "NoneType") (.ty "bool") = some false := by decide +kernel
theorem kt67 : kitL kTb (.ty "bool") (.ty "bool") = some true := by decide +kernel
theorem kt68 : kitL kTb (.ty "int") (.ty "bool") = some false := by decide +kernel
theorem kt69 : kitL kTb (.ty "str") (.ty "bool") = some false := by decide +kernel
theorem kt70 : kitL kTb (.ty "list") (.ty "bool") = some false := by decide +kernel
theorem kt71 : kitL kTb (.ty "tuple") (.ty "bool") = some false := by decide +kernel
theorem kt72 : kitL kTb (.ty "dict") (.ty "bool") = some false := by decide +kernel
theorem kt73 : kitL kTb (.own 39) (.ty "bool") = some false := by decide +kernel
theorem kt74 : kitL kTb (.own 12) (.ty "bool") = some false := by decide +kernel
theorem kt75 : kitL kTb (.own 18) (.ty "bool") = some false := by decide +kernel
theorem kt76 : kitL kTb (.own 26) (.ty "bool") = some false := by decide +kernel
theorem kt77 : kitL kTb (.ty "NoneType") (.ty "int") = some false := by decide +kernel
theorem kt78 : kitL kTb (.ty "bool") (.ty "int") = some true := by decide +kernel
theorem kt79 : kitL kTb (.ty "int") (.ty "int") = some true := by decide +kernel
theorem kt80 : kitL kTb (.ty "str") (.ty "int") = some false := by decide +kernel
theorem kt81 : kitL kTb (.ty "list") (.ty "int") = some false := by decide +kernel
theorem kt82 : kitL kTb (.ty "tuple") (.ty "int") = some false := by decide +kernel
theorem kt83 : kitL kTb (.ty "dict") (.ty "int") = some false := by decide +kernel
theorem kt84 : kitL kTb (.own 39) (.ty "int") = some false := by decide +kernel
theorem kt85 : kitL kTb (.own 12) (.ty "int") = some false := by decide +kernel
theorem kt86 : kitL kTb (.own 18) (.ty "int") = some false := by decide +kernel
theorem kt87 : kitL kTb (.own 26) (.ty "int") = some false := by decide +kernel
theorem kty (s : String) : okTag kOwn (.ty s) = true := rfl
theorem ko39 : okTag kOwn (.own 39) = true := by decide +kernel
theorem ke12 : (12 ∈ kErs) = True := by decide +kernel
theorem ke18 : (18 ∈ kErs) = True := by decide +kernel
theorem ke26 : (26 ∈ kErs) = True := by decide +kernel
def nfStair : List Tg := [.own 39, .ty "NoneType", .ty "bool", .ty "int", .ty "str", .ty "list", .ty "tuple", .ty "dict"]
def F_pen : List D → M D := runF 1 1 (sRet (fLstM (fCons (f1 dList (fCons (fSl (fVar 0) (fun _ => M.ret none) (f1 dPart (fC (.int 63)))) fNil)) (fCons (fC (.int 0)) (fCons (fC (.int 0)) fNil)))))
theorem ar_pen : Ar 1 F_pen := ar_runF
def F_draw : List D → M D := runF 2 7 (sSeq (fIf (f1 dBool (f2 dGt (f2 dIx (fVar 0) (fC (.int 2))) (fC (.int 0)))) (sSeq (sAsg (.nm 5) (f2 dMod (f1 dInt (fCons (f2 dIx (fVar 0) (fC (.int 2))) fNil)) (fVar 1))) (sSeq (sSetI (fVar 0) (fC (.int 2)) (f2 dFdiv (f1 dInt (fCons (f2 dIx (fVar 0) (fC (.int 2))) fNil)) (fVar 1))) (sRet (fVar 5)))) sNext) (sSeq (sAsg (.nm 2) (f2 dIx (fVar 0) (fC (.int 1)))) (sSeq (sSetI (fVar 0) (fC (.int 1)) (f2 dAdd (fVar 2) (fC (.int 1)))) (sSeq (sAsg (.nm 3) (f2 dAdd (f2 dMul (fC (.int 47407)) (fVar 2)) (fC (.int 4387)))) (sSeq (fIf (f1 dBool (f2 dNe (f2 dIx (fVar 0) (fC (.int 0))) (fLst fNil))) (sAsg (.nm 3) (f2 dIx (f2 dIx (fVar 0) (fC (.int 0))) (f2 dMod (f1 dInt (fCons (fVar 2) fNil)) (f1 dLen (fCons (f2 dIx (fVar 0) (fC (.int 0))) fNil))))) sNext) (sSeq (fIf (fAnd (f1 dBool (f2 dLt (fVar 2) (f1 dLen (fCons (f2 dIx (fVar 0) (fC (.int 0))) fNil)))) (f1 dBool (f2 dGe (f1 dAbs (fCons (fVar 3) fNil)) (f2 dPow (fC (.int 10)) (fC (.int 18)))))) (sSeq (sAsg (.nm 6) (f2 dAdd (f2 dMul (fC (.int 2)) (f2 dSub (f1 dAbs (fCons (fVar 3) fNil)) (f2 dPow (fC (.int 10)) (fC (.int 18))))) (f1 dInt (fCons (f2 dLt (fVar 3) (fC (.int 0))) fNil)))) (sSeq (sSetI (fVar 0) (fC (.int 2)) (f2 dFdiv (f1 dInt (fCons (fVar 6) fNil)) (fVar 1))) (sRet (f2 dMod (f1 dInt (fCons (fVar 6) fNil)) (fVar 1))))) sNext) (sSeq (sAsg (.nm 4) (f2 dMod (f1 dInt (fCons (f2 dPow (f2 dAdd (f2 dAdd (f2 dMod (f1 dInt (fCons (fVar 3) fNil)) (fC (.int 2147483587))) (f2 dMul (fC (.int 63403)) (fVar 2))) (fC (.int 1219))) (fC (.int 5))) fNil)) (fC (.int 2147483629)))) (sSeq (sAsg (.nm 4) (f2 dMod (f1 dInt (fCons (f2 dPow (f2 dAdd (f2 dAdd (f2 dMul (fVar 4) (f2 dAdd (f2 dMul (fC (.int 2)) (fVar 2)) (fC (.int 189)))) (f2 dMul (f2 dMul (fC (.int 66023)) (fVar 2)) (fVar 2))) (fC (.int 105))) (fC (.int 3))) fNil)) (fC (.int 2147483579)))) (sRet (f2 dMod (f1 dInt (fCons (f2 dFdiv (fVar 4) (fC (.int 32))) fNil)) (fVar 1)))))))))))
theorem ar_draw : Ar 2 F_draw := ar_runF
def F_pick : List D → M D := runF 2 2 (sRet (f2 dIx (fVar 1) (f1 F_draw (fCons (fVar 0) (fCons (f1 dLen (fCons (fVar 1) fNil)) fNil)))))
theorem ar_pick : Ar 2 F_pick := ar_runF
def F_parts : List D → M D := runF 2 4 (sSeq (sAsg (.nm 2) (f1 dSortedL (fCons (fLc (f1 dRange1 (fCons (f1 F_pick (fCons (fVar 0) (fCons (fLst (fCons (fC (.int 0)) (fCons (fC (.int 1)) (fCons (fC (.int 2)) (fCons (fC (.int 3)) (fCons (fC (.int 6)) fNil)))))) fNil))) fNil)) (.nm 3) fYes (f1 dInt (fCons (f2 dAdd (fC (.int 1)) (f1 F_draw (fCons (fVar 0) (fCons (fVar 1) fNil)))) fNil))) fNil))) (sRet (fTup (fCons (f2 dSub (f1 F_draw (fCons (fVar 0) (fCons (fC (.int 5)) fNil))) (fC (.int 1))) (fCons (fVar 2) fNil)))))
theorem ar_parts : Ar 2 F_parts := ar_runF
def F_Stair_init : List D → M D := runF 5 5 (sSeq (sSetF [39] "length" (fVar 0) (fVar 1)) (sSeq (sSetF [39] "base" (fVar 0) (fVar 2)) (sSeq (sSetF [39] "rises" (fVar 0) (fVar 3)) (sSetF [39] "step" (fVar 0) (fVar 4)))))
theorem ar_Stair_init : Ar 5 F_Stair_init := ar_runF
def F_made : List D → M D := runF 2 2 (sRet (f1 (mkIns 39 F_Stair_init) (fCons (fVar 1) (fCons (f2 dIx (fVar 0) (fC (.int 0))) (fCons (f1 dTuple (fCons (f2 dIx (fVar 0) (fC (.int 1))) fNil)) (fCons (f1 dLen (fCons (f2 dIx (fVar 0) (fC (.int 1))) fNil)) fNil))))))
theorem ar_made : Ar 2 F_made := ar_runF
def L_value_0 : Env8 → M Fl := (sAsg (.nm 3) (f2 dAdd (fVar 3) (f1 dLen (fCons (fLc (f1 dItems (fVar 6)) (.nm 7) (fAnd (f1 dBool (f2 dEq (f2 dMod (f1 dInt (fCons (f2 dSub (fVar 4) (fVar 7)) fNil)) (fVar 1)) (fC (.int 0)))) (f1 dBool (f2 dGe (fVar 4) (fVar 7)))) (fC (.int 1))) fNil))))
def F_value : List D → M D := runF 3 8 (sSeq (sAsg (.tp [(.nm 5), (.nm 6)]) (fVar 0)) (sSeq (sAsg (.nm 3) (fVar 5)) (sSeq (sFor (f1 dRange2 (fCons (fC (.int 1)) (fCons (f2 dAdd (fVar 2) (fC (.int 1))) fNil))) (.nm 4) L_value_0) (sRet (fVar 3)))))
theorem ar_value : Ar 3 F_value := ar_runF
def F_Stair_need_like : List D → M D := runF 2 2 (sSeq (fIf (fNot (f1 dTru (f1 (dIsi kOwn kErs kTb) (fCons (fVar 1) (fCons (fC (.cls 39)) fNil))))) (sRaise1 18 "part" (fCons (fC (.str "stair")) fNil)) sNext) (fIf (f1 dBool (f2 dNe (f1 (dFld [39] "length") (fVar 0)) (f1 (dFld [39] "length") (fVar 1)))) (sRaise1 26 "part" (fCons (fC (.str "length")) fNil)) sNext))
theorem ar_Stair_need_like : Ar 2 F_Stair_need_like := ar_runF
def L_Stair_over_0 : Env8 → M Fl := (sSeq (sAsg (.nm 6) (f2 dSub (f2 dSub (f2 dAdd (f2 dAdd (f1 (dFld [39] "base") (fVar 0)) (fVar 4)) (fC (.int 1))) (f1 (dFld [39] "base") (fVar 1))) (f1 dLen (fCons (fLc (f1 dItems (f1 (dFld [39] "rises") (fVar 1))) (.nm 7) (f1 dBool (f2 dLe (fVar 7) (fVar 5))) (fC (.int 1))) fNil)))) (fIf (fAnd (f1 dBool (f2 dLt (fVar 5) (f1 (dFld [39] "length") (fVar 0)))) (f1 dBool (f2 dGt (fVar 6) (fVar 2)))) (sPar 2 3 (fCons (fVar 6) (fCons (fVar 5) fNil))) sNext))
def F_Stair_over : List D → M D := runF 2 8 (sSeq (sPar 2 3 (fCons (f2 dSub (f1 (dFld [39] "base") (fVar 0)) (f1 (dFld [39] "base") (fVar 1))) (fCons (fC (.int 0)) fNil))) (sSeq (sFor (f1 dEnumT (fCons (f1 (dFld [39] "rises") (fVar 0)) fNil)) (.tp [(.nm 4), (.nm 5)]) L_Stair_over_0) (sRet (fTup (fCons (fVar 2) (fCons (fVar 3) fNil))))))
theorem ar_Stair_over : Ar 2 F_Stair_over := ar_runF
def F_Stair_le : List D → M D := runF 2 2 (sSeq (sDrop (fMeth "need_like" [(39, F_Stair_need_like)] (fVar 0) (fCons (fVar 1) fNil))) (sRet (fAndV (f2 dLe (f1 (dFld [39] "step") (fVar 0)) (f1 (dFld [39] "step") (fVar 1))) (f2 dLe (f2 dIx (fMeth "over" [(39, F_Stair_over)] (fVar 0) (fCons (fVar 1) fNil)) (fC (.int 0))) (fC (.int 0))))))
theorem ar_Stair_le : Ar 2 F_Stair_le := ar_runF
def F_Stair_sub : List D → M D := runF 2 2 (sSeq (sDrop (fMeth "need_like" [(39, F_Stair_need_like)] (fVar 0) (fCons (fVar 1) fNil))) (sRet (fIf (f1 dBool (f2 dGt (f1 (dFld [39] "step") (fVar 0)) (f1 (dFld [39] "step") (fVar 1)))) (fC .non) (f2 dIx (fMeth "over" [(39, F_Stair_over)] (fVar 0) (fCons (fVar 1) fNil)) (fC (.int 0))))))
theorem ar_Stair_sub : Ar 2 F_Stair_sub := ar_runF
def F_Stair_eq : List D → M D := runF 2 3 (sSeq (fIf (fNot (f1 dTru (f1 (dIsi kOwn kErs kTb) (fCons (fVar 1) (fCons (fC (.cls 39)) fNil))))) (sRet (fC (.bl false))) sNext) (sSeq (sAsg (.nm 2) (fTup (fCons (f1 (dFld [39] "length") (fVar 0)) (fCons (f1 (dFld [39] "base") (fVar 0)) (fCons (f1 (dFld [39] "rises") (fVar 0)) (fCons (f1 (dFld [39] "step") (fVar 0)) fNil)))))) (sRet (f2 dEq (fVar 2) (fTup (fCons (f1 (dFld [39] "length") (fVar 1)) (fCons (f1 (dFld [39] "base") (fVar 1)) (fCons (f1 (dFld [39] "rises") (fVar 1)) (fCons (f1 (dFld [39] "step") (fVar 1)) fNil)))))))))
theorem ar_Stair_eq : Ar 2 F_Stair_eq := ar_runF
def F_two_right : List D → M D := runF 3 10 (sSeq (sPar 6 7 (fCons (f1 F_made (fCons (fVar 1) (fCons (fVar 0) fNil))) (fCons (f1 F_made (fCons (fVar 2) (fCons (fVar 0) fNil))) fNil))) (sSeq (sAsg (.nm 3) (fLc (f1 dRange1 (fCons (f2 dAdd (fVar 0) (fC (.int 1))) fNil)) (.nm 8) fYes (f2 dSub (f1 F_value (fCons (fVar 1) (fCons (fVar 0) (fCons (fVar 8) fNil)))) (f1 F_value (fCons (fVar 2) (fCons (fVar 0) (fCons (fVar 8) fNil))))))) (sSeq (sAsg (.nm 4) (fIf (f1 dBool (f2 dLe (f1 dLen (fCons (f2 dIx (fVar 1) (fC (.int 1))) fNil)) (f1 dLen (fCons (f2 dIx (fVar 2) (fC (.int 1))) fNil)))) (f1 dMaxL (fCons (fLc (f1 dItems (fVar 3)) (.nm 9) fYes (f1 dInt (fCons (fVar 9) fNil))) fNil)) (fC .non))) (sSeq (fIf (fOr (f1 dBool (f2 dNe (f1 dRepr (fCons (f2 (dOwnS 39 F_Stair_sub) (fVar 6) (fVar 7)) fNil)) (f1 dRepr (fCons (fVar 4) fNil)))) (f1 dBool (f2 dNe (f1 dRepr (fCons (f2 (dOwn 39 kOwn nfStair F_Stair_le) (fVar 6) (fVar 7)) fNil)) (f1 dRepr (fCons (fAndV (f2 dNotN (fVar 4) (fC .non)) (f2 dLe (fVar 4) (fC (.int 0)))) fNil))))) (sRet (fC (.bl false))) sNext) (sSeq (sAsg (.nm 5) (f2 dEq (fVar 1) (fVar 2))) (sRet (f2 dEq (f1 dRepr (fCons (fLst (fCons (f2 (dOwn 39 kOwn nfStair F_Stair_eq) (fVar 6) (fVar 7)) (fCons (f2 (dOwnB 39 kOwn nfStair F_Stair_eq true) (fVar 6) (fVar 7)) fNil))) fNil)) (f1 dRepr (fCons (fLst (fCons (fVar 5) (fCons (fNotV (fVar 5)) fNil))) fNil)))))))))
theorem ar_two_right : Ar 3 F_two_right := ar_runF
def F_is_integer : List D → M D := runF 1 1 (sRet (fAndV (f1 (dIsi kOwn kErs kTb) (fCons (fVar 0) (fCons (fC (.ty "int")) fNil))) (fNotV (f1 (dIsi kOwn kErs kTb) (fCons (fVar 0) (fCons (fC (.ty "bool")) fNil))))))
theorem ar_is_integer : Ar 1 F_is_integer := ar_runF
def F_Stair_call : List D → M D := runF 2 5 (sSeq (fIf (fOr (fNot (f1 dTru (f1 F_is_integer (fCons (fVar 1) fNil)))) (f1 dBool (f2 dLt (fVar 1) (fC (.int 0))))) (sRaise1 12 "value" (fCons (fVar 1) fNil)) sNext) (sSeq (sAsg (.tp [(.nm 2), (.nm 3)]) (fTup (fCons (f2 dFdiv (fVar 1) (f1 (dFld [39] "length") (fVar 0))) (fCons (f2 dMod (fVar 1) (f1 (dFld [39] "length") (fVar 0))) fNil)))) (sRet (f2 dAdd (f2 dAdd (f1 (dFld [39] "base") (fVar 0)) (f2 dMul (fVar 2) (f1 (dFld [39] "step") (fVar 0)))) (f1 dLen (fCons (fLc (f1 dItems (f1 (dFld [39] "rises") (fVar 0))) (.nm 4) (f1 dBool (f2 dLe (fVar 4) (fVar 3))) (fC (.int 1))) fNil))))))
theorem ar_Stair_call : Ar 2 F_Stair_call := ar_runF
def F_Stair_longest_pause : List D → M D := runF 2 3 (sSeq (fIf (f1 dBool (f2 dLt (fVar 1) (f1 (dFld [39] "base") (fVar 0)))) (sRet (f1 dNeg (fC (.int 1)))) sNext) (sSeq (fIf (f1 dBool (f2 dEq (f1 (dFld [39] "step") (fVar 0)) (fC (.int 0)))) (sRet (fC .non)) sNext) (sSeq (sAsg (.nm 2) (f2 dSub (fVar 1) (f1 (dFld [39] "base") (fVar 0)))) (sRet (f2 dSub (f2 dAdd (f2 dIx (f1 (dFld [39] "rises") (fVar 0)) (f2 dMod (fVar 2) (f1 (dFld [39] "step") (fVar 0)))) (f2 dMul (f1 (dFld [39] "length") (fVar 0)) (f2 dFdiv (fVar 2) (f1 (dFld [39] "step") (fVar 0))))) (fC (.int 1)))))))
theorem ar_Stair_longest_pause : Ar 2 F_Stair_longest_pause := ar_runF
def L_one_right_0 : Env8 → M Fl := (sSeq (sAsg (.nm 11) (fIf (f1 dBool (f2 dGt (fVar 10) (fC (.int 0)))) (f1 dMaxL (fCons (fLc (f1 dRange1 (fCons (f2 dAdd (f2 dMul (fC (.int 2)) (fVar 1)) (fC (.int 2))) fNil)) (.nm 12) (f1 dBool (f2 dLe (f2 dIx (fVar 3) (fVar 12)) (fVar 5))) (f1 dInt (fCons (fVar 12) fNil))) fNil)) (fC .non))) (sSeq (fIf (fAnd (f1 dBool (f2 dGt (fVar 10) (fC (.int 0)))) (f1 dBool (f2 dEq (fVar 11) (f2 dAdd (f2 dMul (fC (.int 2)) (fVar 1)) (fC (.int 1)))))) (sSeq (sAsg (.nm 11) (fMeth "longest_pause" [(39, F_Stair_longest_pause)] (fVar 8) (fCons (fVar 5) fNil))) (fIf (fOr (f1 dBool (f2 dGt (fCallO 39 F_Stair_call (fVar 8) (fCons (fVar 11) fNil)) (fVar 5))) (f1 dBool (f2 dLe (fCallO 39 F_Stair_call (fVar 8) (fCons (f2 dAdd (fVar 11) (fC (.int 1))) fNil)) (fVar 5)))) (sRet (fC (.bl false))) sNext)) sNext) (fIf (f1 dBool (f2 dNe (f1 dRepr (fCons (fMethK "longest_pause" 39 1 [0] F_Stair_longest_pause (fVar 8) (fCons (fVar 5) fNil)) fNil)) (f1 dRepr (fCons (fVar 11) fNil)))) (sRet (fC (.bl false))) sNext)))
def F_one_right : List D → M D := runF 3 13 (sSeq (sAsg (.tp [(.nm 8), (.nm 9), (.nm 10)]) (fTup (fCons (f1 F_made (fCons (fVar 2) (fCons (fVar 1) fNil))) (fCons (f2 dIx (fVar 2) (fC (.int 0))) (fCons (f1 dLen (fCons (f2 dIx (fVar 2) (fC (.int 1))) fNil)) fNil))))) (sSeq (sAsg (.nm 3) (fLc (f1 dRange1 (fCons (f2 dAdd (f2 dMul (fC (.int 2)) (fVar 1)) (fC (.int 2))) fNil)) (.nm 12) fYes (f1 F_value (fCons (fVar 2) (fCons (fVar 1) (fCons (fVar 12) fNil)))))) (sSeq (fIf (f1 dBool (f2 dNe (f1 dRepr (fCons (fLc (f1 dRange1 (fCons (f2 dAdd (f2 dMul (fC (.int 2)) (fVar 1)) (fC (.int 2))) fNil)) (.nm 12) fYes (fCallO 39 F_Stair_call (fVar 8) (fCons (fVar 12) fNil))) fNil)) (f1 dRepr (fCons (fVar 3) fNil)))) (sRet (fC (.bl false))) sNext) (sSeq (sAsg (.nm 4) (f2 dAdd (f2 dPow (fC (.int 10)) (fC (.int 30))) (f1 F_draw (fCons (fVar 0) (fCons (fC (.int 99)) fNil))))) (sSeq (fIf (fOr (f1 dBool (f2 dNe (fCallO 39 F_Stair_call (fVar 8) (fCons (f2 dAdd (f2 dMul (fVar 4) (fVar 1)) (fC (.int 1))) fNil)) (f2 dAdd (f2 dIx (fVar 3) (fC (.int 1))) (f2 dMul (fVar 4) (fVar 10))))) (f1 dBool (f2 dNe (fMeth "longest_pause" [(39, F_Stair_longest_pause)] (fVar 8) (fCons (f2 dSub (fVar 9) (fC (.int 1))) fNil)) (f1 dNeg (fC (.int 1)))))) (sRet (fC (.bl false))) sNext) (sSeq (sFor (f1 dRange2 (fCons (fVar 9) (fCons (f2 dAdd (f2 dAdd (fVar 9) (fVar 10)) (fC (.int 2))) fNil))) (.nm 5) L_one_right_0) (sSeq (sAsg (.nm 6) (f2 dAdd (f2 dPow (fC (.int 10)) (fC (.int 25))) (f1 F_draw (fCons (fVar 0) (fCons (fC (.int 999)) fNil))))) (sSeq (sAsg (.nm 7) (fMeth "longest_pause" [(39, F_Stair_longest_pause)] (fVar 8) (fCons (fVar 6) fNil))) (sRet (fIf (f1 dBool (f2 dEq (fVar 10) (fC (.int 0)))) (f2 dIsN (fVar 7) (fC .non)) (fChain dLe dLt (fCallO 39 F_Stair_call (fVar 8) (fCons (fVar 7) fNil)) (fVar 6) (fCallO 39 F_Stair_call (fVar 8) (fCons (f2 dAdd (fVar 7) (fC (.int 1))) fNil)))))))))))))
theorem ar_one_right : Ar 3 F_one_right := ar_runF
def F_heard : M D → M D := heardA kErs (sSeq (fIf (fAnd (f1 dTru (f1 (dIsi kOwn kErs kTb) (fCons (fVar 1) (fCons (fC (.cls 12)) fNil)))) (f1 dTru (f1 (dIsi kOwn kErs kTb) (fCons (fVar 1) (fCons (fC (.cls 8)) fNil))))) (sRet (fTup (fCons (fC (.str "number")) (fCons (f1 dRepr2 (fCons (f1 (dErr [12] "value") (fVar 1)) fNil)) fNil)))) sNext) (sSeq (fIf (fAnd (f1 dTru (f1 (dIsi kOwn kErs kTb) (fCons (fVar 1) (fCons (fC (.cls 18)) fNil)))) (f1 dTru (f1 (dIsi kOwn kErs kTb) (fCons (fVar 1) (fCons (fC (.cls 8)) fNil))))) (sRet (fTup (fCons (fC (.str "ask")) (fCons (f1 (dErr [18, 26] "part") (fVar 1)) fNil)))) sNext) (sRet (fIf (fAnd (f1 dTru (f1 (dIsi kOwn kErs kTb) (fCons (fVar 1) (fCons (fC (.cls 26)) fNil)))) (f1 dTru (f1 (dIsi kOwn kErs kTb) (fCons (fVar 1) (fCons (fC (.cls 9)) fNil))))) (fTup (fCons (fC (.str "unlike")) (fCons (f1 (dErr [18, 26] "part") (fVar 1)) fNil))) (fTup (fCons (fC (.str "odd")) fNil))))))
def F_refused_right : List D → M D := runG 3 8 (sSeq (sAsg (.tp [(.nm 6), (.nm 7)]) (fTup (fCons (f1 F_made (fCons (fVar 2) (fCons (fVar 1) fNil))) (fCons (f1 F_made (fCons (fVar 2) (fCons (f2 dAdd (fVar 1) (fC (.int 1))) fNil))) fNil)))) (sSeq (sAsg (.nm 3) (f1 F_pick (fCons (fVar 0) (fCons (fLst (fCons (fC .non) (fCons (f1 dNeg (fC (.int 1))) (fCons (fC (.bl true)) (fCons (fC (.bl false)) (fCons (fC (.str "1")) (fCons (fTup (fCons (fC (.int 1)) fNil)) (fCons (fLst (fCons (fC (.int 1)) fNil)) (fCons (fC (.dct [])) (fCons (f2 dSub (fC (.int 0)) (f2 dPow (fC (.int 10)) (fC (.int 30)))) fNil)))))))))) fNil)))) (sSeq (sAsg (.nm 4) (f1 F_pick (fCons (fVar 0) (fCons (fLst (fCons (fC .non) (fCons (fC (.int 0)) (fCons (fC (.int 5)) (fCons (fC (.bl true)) (fCons (fC (.str "stair")) (fCons (fTup (fCons (fC (.int 1)) fNil)) (fCons (fLst (fCons (fVar 6) fNil)) (fCons (fC (.dct [])) fNil))))))))) fNil)))) (sSeq (sAsg (.nm 5) (fLstM (fCons (fHeard F_heard (fCallO 39 F_Stair_call (fVar 6) (fCons (fVar 3) fNil))) fNil))) (sSeq (sDrop (fApp (fVar 5) (fHeard F_heard (f2 (dOwnLs 39 ["int", "bool", "str", "list", "tuple", "dict", "NoneType"] F_Stair_sub) (fVar 6) (fVar 4))))) (sSeq (sDrop (fApp (fVar 5) (fHeard F_heard (f2 (dOwn 39 kOwn nfStair F_Stair_le) (fVar 6) (fVar 4))))) (sSeq (sDrop (fApp (fVar 5) (fHeard F_heard (f2 (dOwnS 39 F_Stair_sub) (fVar 6) (fVar 7))))) (sSeq (sDrop (fApp (fVar 5) (fHeard F_heard (f2 (dOwn 39 kOwn nfStair F_Stair_le) (fVar 7) (fVar 6))))) (sSeq (fIf (f1 dBool (f2 dNe (fVar 5) (f2 dAdd (fLst (fCons (fTup (fCons (fC (.str "number")) (fCons (f1 dRepr2 (fCons (fVar 3) fNil)) fNil))) (fCons (fTup (fCons (fC (.str "ask")) (fCons (fC (.str "stair")) fNil))) (fCons (fTup (fCons (fC (.str "ask")) (fCons (fC (.str "stair")) fNil))) fNil)))) (f2 dMul8 (fLst (fCons (fTup (fCons (fC (.str "unlike")) (fCons (fC (.str "length")) fNil))) fNil)) (fC (.int 2)))))) (sRet (fC (.bl false))) sNext) (sRet (fAndV (f2 (dOwnB 39 kOwn nfStair F_Stair_eq true) (fVar 6) (fVar 7)) (f2 (dNotInB 39 F_Stair_eq) (fVar 6) (fLst (fCons (fC .non) (fCons (fC (.int 0)) (fCons (f1 dTuple (fCons (fVar 2) fNil)) (fCons (fTup (fCons (fVar 1) (fCons (f2 dIx (fVar 2) (fC (.int 0))) (fCons (f1 dTuple (fCons (f2 dIx (fVar 2) (fC (.int 1))) fNil)) (fCons (f1 dLen (fCons (f2 dIx (fVar 2) (fC (.int 1))) fNil)) fNil))))) fNil)))))))))))))))))
theorem ar_refused_right : Ar 3 F_refused_right := ar_runG
def L_law_0 : Env8 → M Fl := (sSeq (sAsg (.nm 4) (f1 F_pick (fCons (fVar 1) (fCons (fLst (fCons (fC (.int 1)) (fCons (fC (.int 2)) (fCons (fC (.int 5)) (fCons (fC (.int 9)) (fCons (f2 dAdd (fC (.int 1)) (f1 F_draw (fCons (fVar 1) (fCons (fC (.int 14)) fNil)))) fNil)))))) fNil)))) (sSeq (sPar 6 5 (fCons (f1 F_parts (fCons (fVar 1) (fCons (fVar 4) fNil))) (fCons (f1 F_parts (fCons (fVar 1) (fCons (fVar 4) fNil))) fNil))) (sSeq (sAsg (.nm 5) (f1 F_pick (fCons (fVar 1) (fCons (fLst (fCons (fVar 5) (fCons (fVar 5) (fCons (fVar 6) (fCons (fTup (fCons (f2 dAdd (f2 dIx (fVar 6) (fC (.int 0))) (fC (.int 1))) (fCons (f2 dIx (fVar 6) (fC (.int 1))) fNil))) (fCons (fTup (fCons (f2 dIx (fVar 6) (fC (.int 0))) (fCons (fSl (f2 dIx (fVar 6) (fC (.int 1))) (fun _ => M.ret none) (f1 dPart (f1 dNeg (fC (.int 1))))) fNil))) fNil)))))) fNil)))) (sSeq (fIf (fOr (fNot (f1 dTru (f1 F_one_right (fCons (fVar 1) (fCons (fVar 4) (fCons (fVar 6) fNil)))))) (fOr (fNot (f1 dTru (f1 F_two_right (fCons (fVar 4) (fCons (fVar 6) (fCons (fVar 5) fNil)))))) (fNot (f1 dTru (f1 F_two_right (fCons (fVar 4) (fCons (fVar 5) (fCons (fVar 6) fNil)))))))) (sRet (fC (.bl false))) sNext) (fIf (fNot (f1 dTru (f1 F_refused_right (fCons (fVar 1) (fCons (fVar 4) (fCons (fVar 6) fNil)))))) (sRet (fC (.bl false))) sNext)))))
def F_law : List D → M D := runF 1 7 (sSeq (sAsg (.nm 1) (f1 F_pen (fCons (fVar 0) fNil))) (sSeq (sFor (f1 dRange1 (fCons (fC (.int 6)) fNil)) (.nm 2) L_law_0) (sSeq (sAsg (.nm 3) (f1 (mkIns 39 F_Stair_init) (fKw 0 4 [3, 2, 1, 0] fNil (fCons (fC (.int 2)) (fCons (fTup (fCons (fC (.int 2)) (fCons (fC (.int 20)) fNil))) (fCons (fC (.int 1)) (fCons (fC (.int 24)) fNil))))))) (sRet (f2 dEq (fLst (fCons (fCallO 39 F_Stair_call (fVar 3) (fCons (fC (.int 0)) fNil)) (fCons (fCallO 39 F_Stair_call (fVar 3) (fCons (fC (.int 2)) fNil)) (fCons (fCallO 39 F_Stair_call (fVar 3) (fCons (fC (.int 24)) fNil)) (fCons (fCallO 39 F_Stair_call (fVar 3) (fCons (fC (.int 26)) fNil)) (fCons (fMeth "longest_pause" [(39, F_Stair_longest_pause)] (fVar 3) (fCons (fC (.int 2)) fNil)) (fCons (fMeth "longest_pause" [(39, F_Stair_longest_pause)] (fVar 3) (fCons (fC (.int 0)) fNil)) fNil))))))) (fLst (fCons (fC (.int 1)) (fCons (fC (.int 2)) (fCons (fC (.int 3)) (fCons (fC (.int 4)) (fCons (fC (.int 19)) (fCons (f1 dNeg (fC (.int 1))) fNil))))))))))))
theorem ar_law : Ar 1 F_law := ar_runF
end
section
variable {P : Program} {wo : World} {K : PySem.W.Frag} {mg : Str → Option Value} {base : Heap} {A : Ad} {D0 : Fd}
theorem K8 (T : Txt P K mg A D0) : Kinds (W8 K A) kOwn kErs kTb := ⟨(iso_cons T.is_Stair iso_nil), (errs_cons T.er_BadNumber.ex (errs_cons T.er_BadAsk.ex (errs_cons T.er_Unlike.ex errs_nil))), (kit_cons T.kq_tNoneType_BadAsk (kit_cons T.kq_tbool_BadAsk (kit_cons T.kq_tint_BadAsk (kit_cons T.kq_tstr_BadAsk (kit_cons T.kq_tlist_BadAsk (kit_cons T.kq_ttuple_BadAsk (kit_cons T.kq_tdict_BadAsk (kit_cons T.kq_Stair_BadAsk (kit_cons T.kq_BadNumber_BadAsk (kit_cons T.kq_BadAsk_BadAsk (kit_cons T.kq_Unlike_BadAsk (kit_cons T.kq_tNoneType_BadInput (kit_cons T.kq_tbool_BadInput (kit_cons T.kq_tint_BadInput (kit_cons T.kq_tstr_BadInput (kit_cons T.kq_tlist_BadInput (kit_cons T.kq_ttuple_BadInput (kit_cons T.kq_tdict_BadInput (kit_cons T.kq_Stair_BadInput (kit_cons T.kq_BadNumber_BadInput (kit_cons T.kq_BadAsk_BadInput (kit_cons T.kq_Unlike_BadInput (kit_cons T.kq_tNoneType_BadNumber (kit_cons T.kq_tbool_BadNumber (kit_cons T.kq_tint_BadNumber (kit_cons T.kq_tstr_BadNumber (kit_cons T.kq_tlist_BadNumber (kit_cons T.kq_ttuple_BadNumber (kit_cons T.kq_tdict_BadNumber (kit_cons T.kq_Stair_BadNumber (kit_cons T.kq_BadNumber_BadNumber (kit_cons T.kq_BadAsk_BadNumber (kit_cons T.kq_Unlike_BadNumber (kit_cons T.kq_tNoneType_Refused (kit_cons T.kq_tbool_Refused (kit_cons T.kq_tint_Refused (kit_cons T.kq_tstr_Refused (kit_cons T.kq_tlist_Refused (kit_cons T.kq_ttuple_Refused (kit_cons T.kq_tdict_Refused (kit_cons T.kq_Stair_Refused (kit_cons T.kq_BadNumber_Refused (kit_cons T.kq_BadAsk_Refused (kit_cons T.kq_Unlike_Refused (kit_cons T.kq_tNoneType_Stair (kit_cons T.kq_tbool_Stair (kit_cons T.kq_tint_Stair (kit_cons T.kq_tstr_Stair (kit_cons T.kq_tlist_Stair (kit_cons T.kq_ttuple_Stair (kit_cons T.kq_tdict_Stair (kit_cons T.kq_Stair_Stair (kit_cons T.kq_BadNumber_Stair (kit_cons T.kq_BadAsk_Stair (kit_cons T.kq_Unlike_Stair (kit_cons T.kq_tNoneType_Unlike (kit_cons T.kq_tbool_Unlike (kit_cons T.kq_tint_Unlike (kit_cons T.kq_tstr_Unlike (kit_cons T.kq_tlist_Unlike (kit_cons T.kq_ttuple_Unlike (kit_cons T.kq_tdict_Unlike (kit_cons T.kq_Stair_Unlike (kit_cons T.kq_BadNumber_Unlike (kit_cons T.kq_BadAsk_Unlike (kit_cons T.kq_Unlike_Unlike (kit_cons (kit_ty (by decide +kernel)) (kit_cons (kit_ty (by decide +kernel)) (kit_cons (kit_ty (by decide +kernel)) (kit_cons (kit_ty (by decide +kernel)) (kit_cons (kit_ty (by decide +kernel)) (kit_cons (kit_ty (by decide +kernel)) (kit_cons (kit_ty (by decide +kernel)) (kit_cons T.kq_Stair_tbool (kit_cons T.kq_BadNumber_tbool (kit_cons T.kq_BadAsk_tbool (kit_cons T.kq_Unlike_tbool (kit_cons (kit_ty (by decide +kernel)) (kit_cons (kit_ty (by decide +kernel)) (kit_cons (kit_ty (by decide +kernel)) (kit_cons (kit_ty (by decide +kernel)) (kit_cons (kit_ty (by decide +kernel)) (kit_cons (kit_ty (by decide +kernel)) (kit_cons (kit_ty (by decide +kernel)) (kit_cons T.kq_Stair_tint (kit_cons T.kq_BadNumber_tint (kit_cons T.kq_BadAsk_tint (kit_cons T.kq_Unlike_tint kit_nil))))))))))))))))))))))))))))))))))))))))))))))))))))))))))))))))))))))))))))))))))))))))⟩
theorem nf_Stair (T : Txt P K mg A D0) : NfOk (W8 K A) 39 nfStair := nf_self (nf_cons T.sb_Stair_tNoneType (nf_cons T.sb_Stair_tbool (nf_cons T.sb_Stair_tint (nf_cons T.sb_Stair_tstr (nf_cons T.sb_Stair_tlist (nf_cons T.sb_Stair_ttuple (nf_cons T.sb_Stair_tdict nf_nil)))))))
theorem ok_BadNumber_init (T : Txt P K mg A D0) (TB : Tbs base mg A) : FnOk P wo K mg base CX0 1 A.BadNumber_init D0.BadNumber_init ["self", "value"] (spErr1 A.BadNumber "value") :=
  err1_ok T.f_BadNumber_init sc_BadNumber_init rfl rfl rfl T.ms T.op T.er_BadNumber.se T.nf_BadNumber_value
theorem ok_BadAsk_init (T : Txt P K mg A D0) (TB : Tbs base mg A) : FnOk P wo K mg base CX0 1 A.BadAsk_init D0.BadAsk_init ["self", "part"] (spErr1 A.BadAsk "part") :=
  err1_ok T.f_BadAsk_init sc_BadAsk_init rfl rfl rfl T.ms T.op T.er_BadAsk.se T.nf_BadAsk_part
theorem ok_Unlike_init (T : Txt P K mg A D0) (TB : Tbs base mg A) : FnOk P wo K mg base CX0 1 A.Unlike_init D0.Unlike_init ["self", "part"] (spErr1 A.Unlike "part") :=
  err1_ok T.f_Unlike_init sc_Unlike_init rfl rfl rfl T.ms T.op T.er_Unlike.se T.nf_Unlike_part
theorem ok_pen (T : Txt P K mg A D0) (TB : Tbs base mg A) : FnOk P wo K mg base (L2.CX P wo) 1 A.pen D0.pen ["_law_script"] (spM (W8 K A) 1 F_pen) := by
  refine fn_ok (wd := W8 K A) T.f_pen sc_pen (by decide) (fun cdv Ar outer s H E hr => ?_)
  exact (pmss_one (pms_ret (pm_lstM (pma_cons (pm_ty (b_list rfl) rfl T.n_list bt_list (pma_cons (pm_sl rfl (pm_var (pv 0)) pmo_none (pmo_some pm_int)) pma_nil)) (pma_cons pm_int (pma_cons pm_int pma_nil))))))
theorem ok_draw (T : Txt P K mg A D0) (TB : Tbs base mg A) : FnOk P wo K mg base (L2.CX P wo) 1 A.draw D0.draw ["_law_pen_here", "_law_many"] (spM (W8 K A) 2 F_draw) := by
  refine fn_ok (wd := W8 K A) T.f_draw sc_draw (by decide) (fun cdv Ar outer s H E hr => ?_)
  exact (pmss_cons (pms_if (pmt_cm c_gt (pm_ix rfl (pm_var (pv 0)) pm_int (fun _ _ => rfl)) pm_int (nomark _)) (pmss_cons (pms_set (i := 5) sc_draw.nd rfl (Or.inl rfl) (pm_op8 o_mod (pm_ty b_int rfl T.n_int bt_int (pma_cons (pm_ix rfl (pm_var (pv 0)) pm_int (fun _ _ => rfl)) pma_nil)) (pm_var (pv 1)))) (pmss_cons (pms_setI (pm_var (pv 0)) pm_int (pm_op8 o_fdiv (pm_ty b_int rfl T.n_int bt_int (pma_cons (pm_ix rfl (pm_var (pv 0)) pm_int (fun _ _ => rfl)) pma_nil)) (pm_var (pv 1))) (ps_asg (pm_op8 o_fdiv (pm_ty b_int rfl T.n_int bt_int (pma_cons (pm_ix rfl (pm_var (pv 0)) pm_int (fun _ _ => rfl)) pma_nil)) (pm_var (pv 1))) (pg_sub (pm_var (pv 0)) pm_int set_list))) (pmss_one (pms_ret (pm_var (pv 5)))))) pmss_nil) (pmss_cons (pms_set (i := 2) sc_draw.nd rfl (Or.inl rfl) (pm_ix rfl (pm_var (pv 0)) pm_int (fun _ _ => rfl))) (pmss_cons (pms_setI (pm_var (pv 0)) pm_int (pm_op8 (o_add rfl) (pm_var (pv 2)) pm_int) (ps_asg (pm_op8 (o_add rfl) (pm_var (pv 2)) pm_int) (pg_sub (pm_var (pv 0)) pm_int set_list))) (pmss_cons (pms_set (i := 3) sc_draw.nd rfl (Or.inl rfl) (pm_op8 (o_add rfl) (pm_op8 o_mul0 pm_int (pm_var (pv 2))) pm_int)) (pmss_cons (pms_if (pmt_cm (c_ne rfl hr) (pm_ix rfl (pm_var (pv 0)) pm_int (fun _ _ => rfl)) (pm_lst pma_nil) (nomark _)) (pmss_one (pms_set (i := 3) sc_draw.nd rfl (Or.inl rfl) (pm_ix rfl (pm_ix rfl (pm_var (pv 0)) pm_int (fun _ _ => rfl)) (pm_op8 o_mod (pm_ty b_int rfl T.n_int bt_int (pma_cons (pm_var (pv 2)) pma_nil)) (pm_b (b_len rfl) rfl T.n_len bt_len (pma_cons (pm_ix rfl (pm_var (pv 0)) pm_int (fun _ _ => rfl)) pma_nil))) (fun _ _ => rfl)))) pmss_nil) (pmss_cons (pms_if (PW.pt (pmw_and (pmt_cm c_lt (pm_var (pv 2)) (pm_b (b_len rfl) rfl T.n_len bt_len (pma_cons (pm_ix rfl (pm_var (pv 0)) pm_int (fun _ _ => rfl)) pma_nil)) (nomark _)) (pmw_and1 (pmt_cm c_ge (pm_b b_abs rfl T.n_abs bt_abs (pma_cons (pm_var (pv 3)) pma_nil)) (pm_op8 o_pow pm_int pm_int) (nomark _))))) (pmss_cons (pms_set (i := 6) sc_draw.nd rfl (Or.inl rfl) (pm_op8 (o_add rfl) (pm_op8 o_mul0 pm_int (pm_op8 o_sub (pm_b b_abs rfl T.n_abs bt_abs (pma_cons (pm_var (pv 3)) pma_nil)) (pm_op8 o_pow pm_int pm_int))) (pm_ty b_int rfl T.n_int bt_int (pma_cons (pm_cmp c_lt (pm_var (pv 3)) pm_int (nomark _)) pma_nil)))) (pmss_cons (pms_setI (pm_var (pv 0)) pm_int (pm_op8 o_fdiv (pm_ty b_int rfl T.n_int bt_int (pma_cons (pm_var (pv 6)) pma_nil)) (pm_var (pv 1))) (ps_asg (pm_op8 o_fdiv (pm_ty b_int rfl T.n_int bt_int (pma_cons (pm_var (pv 6)) pma_nil)) (pm_var (pv 1))) (pg_sub (pm_var (pv 0)) pm_int set_list))) (pmss_one (pms_ret (pm_op8 o_mod (pm_ty b_int rfl T.n_int bt_int (pma_cons (pm_var (pv 6)) pma_nil)) (pm_var (pv 1))))))) pmss_nil) (pmss_cons (pms_set (i := 4) sc_draw.nd rfl (Or.inl rfl) (pm_op8 o_mod (pm_ty b_int rfl T.n_int bt_int (pma_cons (pm_op8 o_pow (pm_op8 (o_add rfl) (pm_op8 (o_add rfl) (pm_op8 o_mod (pm_ty b_int rfl T.n_int bt_int (pma_cons (pm_var (pv 3)) pma_nil)) pm_int) (pm_op8 o_mul0 pm_int (pm_var (pv 2)))) pm_int) pm_int) pma_nil)) pm_int)) (pmss_cons (pms_set (i := 4) sc_draw.nd rfl (Or.inl rfl) (pm_op8 o_mod (pm_ty b_int rfl T.n_int bt_int (pma_cons (pm_op8 o_pow (pm_op8 (o_add rfl) (pm_op8 (o_add rfl) (pm_op8 o_mul0 (pm_var (pv 4)) (pm_op8 (o_add rfl) (pm_op8 o_mul0 pm_int (pm_var (pv 2))) pm_int)) (pm_op8 o_mul0 (pm_op8 o_mul0 pm_int (pm_var (pv 2))) (pm_var (pv 2)))) pm_int) pm_int) pma_nil)) pm_int)) (pmss_one (pms_ret (pm_op8 o_mod (pm_ty b_int rfl T.n_int bt_int (pma_cons (pm_op8 o_fdiv (pm_var (pv 4)) pm_int) pma_nil)) (pm_var (pv 1)))))))))))))
theorem ok_pick (T : Txt P K mg A D0) (TB : Tbs base mg A) : FnOk P wo K mg base (L2.CX P wo) 2 A.pick D0.pick ["_law_pen_here", "_law_some"] (spM (W8 K A) 2 F_pick) := by
  refine fn_ok (wd := W8 K A) T.f_pick sc_pick (by decide) (fun cdv Ar outer s H E hr => ?_)
  exact (pmss_one (pms_ret (pm_ix rfl (pm_var (pv 1)) (pm_call (ok_draw T TB) ar_draw (hr.mono (by decide)) rfl T.m_draw T.f_draw.kp T.b_draw (passes_call (takes_of rfl rfl rfl rfl) (fun _ _ _ _ h => h)) (pma_cons (pm_var (pv 0)) (pma_cons (pm_b (b_len rfl) rfl T.n_len bt_len (pma_cons (pm_var (pv 1)) pma_nil)) pma_nil))) (fun _ _ => rfl))))
theorem ok_parts (T : Txt P K mg A D0) (TB : Tbs base mg A) : FnOk P wo K mg base (L2.CX P wo) 3 A.parts D0.parts ["_law_pen_here", "_law_size"] (spM (W8 K A) 2 F_parts) := by
  refine fn_ok (wd := W8 K A) T.f_parts sc_parts (by decide) (fun cdv Ar outer s H E hr => ?_)
  exact (pmss_cons (pms_set (i := 2) sc_parts.nd rfl (Or.inl rfl) (pm_b (b_sortedL rfl) rfl T.n_sorted bt_sorted (pma_cons (pm_lc (own := [("_law_turn", 3)]) (p := (.nm 3)) rfl sc_parts.nd (pmi_range1 rfl T.n_range (pma_cons (pm_call (ok_pick T TB) ar_pick (hr.mono (by decide)) rfl T.m_pick T.f_pick.kp T.b_pick (passes_call (takes_of rfl rfl rfl rfl) (fun _ _ _ _ h => h)) (pma_cons (pm_var (pv 0)) (pma_cons (pm_lst (pma_cons pm_int (pma_cons pm_int (pma_cons pm_int (pma_cons pm_int (pma_cons pm_int pma_nil)))))) pma_nil))) pma_nil)) (blkOk_by (own := [("_law_turn", 3)]) (N := ["_law_pen_here", "_law_size", "_law_steps_so", "_law_turn"]) (sc := defScope s_parts) (by decide +kernel)) (by rfl) (fun _ _ _ _ _ => (pgm_nm (i := 3) sc_parts.nd rfl (Or.inl rfl))) (fun _ _ _ _ _ => pmts_nil) (fun _ _ _ _ _ => (pm_ty b_int rfl T.n_int bt_int (pma_cons (pm_op8 (o_add rfl) pm_int (pm_call (ok_draw T TB) ar_draw (hr.mono (by decide)) rfl T.m_draw T.f_draw.kp T.b_draw pass0E (pma_cons (pm_var (pv 0)) (pma_cons (pm_var (pv 1)) pma_nil)))) pma_nil)))) pma_nil))) (pmss_one (pms_ret (pm_tup (pma_cons (pm_op8 o_sub (pm_call (ok_draw T TB) ar_draw (hr.mono (by decide)) rfl T.m_draw T.f_draw.kp T.b_draw (passes_call (takes_of rfl rfl rfl rfl) (fun _ _ _ _ h => h)) (pma_cons (pm_var (pv 0)) (pma_cons pm_int pma_nil))) pm_int) (pma_cons (pm_var (pv 2)) pma_nil))))))
theorem ok_Stair_init (T : Txt P K mg A D0) (TB : Tbs base mg A) : FnOk P wo K mg base (L2.CX P wo) 1 A.Stair_init D0.Stair_init ["self", "length", "base", "rises", "step"] (spM (W8 K A) 5 F_Stair_init) := by
  refine fn_ok (wd := W8 K A) T.f_Stair_init sc_Stair_init (by decide) (fun cdv Ar outer s H E hr => ?_)
  exact (pmss_cons (pms_fld rfl (attr_cons T.cl_Stair T.na_Stair_length attr_nil) (pm_var (pv 0)) (pm_var (pv 1)) rfl) (pmss_cons (pms_fld rfl (attr_cons T.cl_Stair T.na_Stair_base attr_nil) (pm_var (pv 0)) (pm_var (pv 2)) rfl) (pmss_cons (pms_fld rfl (attr_cons T.cl_Stair T.na_Stair_rises attr_nil) (pm_var (pv 0)) (pm_var (pv 3)) rfl) (pmss_one (pms_fld rfl (attr_cons T.cl_Stair T.na_Stair_step attr_nil) (pm_var (pv 0)) (pm_var (pv 4)) rfl)))))
theorem ok_made (T : Txt P K mg A D0) (TB : Tbs base mg A) : FnOk P wo K mg base (L2.CX P wo) 3 A.made D0.made ["_law_parts_here", "_law_size"] (spM (W8 K A) 2 F_made) := by
  refine fn_ok (wd := W8 K A) T.f_made sc_made (by decide) (fun cdv Ar outer s H E hr => ?_)
  exact (pmss_one (pms_ret (pm_make (c := 39) T.mk_Stair (ok_Stair_init T TB) ar_Stair_init (hr.mono (by decide)) rfl T.m_Stair T.b_Stair_init (passes_call (takes_of rfl rfl rfl rfl) (fun _ _ _ _ h => h)) (pma_cons (pm_var (pv 1)) (pma_cons (pm_ix rfl (pm_var (pv 0)) pm_int (fun _ _ => rfl)) (pma_cons (pm_ty (b_tuple rfl) rfl T.n_tuple bt_tuple (pma_cons (pm_ix rfl (pm_var (pv 0)) pm_int (fun _ _ => rfl)) pma_nil)) (pma_cons (pm_b (b_len rfl) rfl T.n_len bt_len (pma_cons (pm_ix rfl (pm_var (pv 0)) pm_int (fun _ _ => rfl)) pma_nil)) pma_nil)))))))
theorem ok_value (T : Txt P K mg A D0) (TB : Tbs base mg A) : FnOk P wo K mg base (L2.CX P wo) 1 A.value D0.value ["_law_parts_here", "_law_size", "_law_pause"] (spM (W8 K A) 3 F_value) := by
  refine fn_ok (wd := W8 K A) T.f_value sc_value (by decide) (fun cdv Ar outer s H E hr => ?_)
  exact (pmss_cons (pms_asg (pm_var (pv 0)) (pgm_tp rfl rfl (pgms_cons (pgm_nm (i := 5) sc_value.nd rfl (Or.inl rfl)) (pgms_cons (pgm_nm (i := 6) sc_value.nd rfl (Or.inl rfl)) pgms_nil)))) (pmss_cons (pms_set (i := 3) sc_value.nd rfl (Or.inl rfl) (pm_var (pv 5))) (pmss_cons (pms_for (passes_of rfl) rfl (pmi_range2 rfl T.n_range (pma_cons pm_int (pma_cons (pm_op8 (o_add rfl) (pm_var (pv 2)) pm_int) pma_nil))) (pgm_nm (i := 4) sc_value.nd rfl (Or.inr rfl)) (pmss_one (pms_set (i := 3) sc_value.nd rfl (Or.inl rfl) (pm_op8 (o_add rfl) (pm_var (pv 3)) (pm_b (b_len rfl) rfl T.n_len bt_len (pma_cons (pm_lc (own := [("_law_rise", 7)]) (p := (.nm 7)) rfl sc_value.nd (pmi_seq rfl (pm_var (pv 6))) (blkOk_by (own := [("_law_rise", 7)]) (N := ["_law_parts_here", "_law_size", "_law_pause", "_law_found", "_law_moment", "_law_ground", "_law_steps_so", "_law_rise"]) (sc := defScope s_value) (by decide +kernel)) (by rfl) (fun _ _ _ _ _ => (pgm_nm (i := 7) sc_value.nd rfl (Or.inl rfl))) (fun _ _ _ _ _ => (pmts_one (PW.pt (pmw_and (pmt_cm (c_eq rfl hr) (pm_op8 o_mod (pm_ty b_int rfl T.n_int bt_int (pma_cons (pm_op8 o_sub (pm_var (pv 4)) (pm_var (pv 7))) pma_nil)) (pm_var (pv 1))) pm_int (nomark _)) (pmw_and1 (pmt_cm c_ge (pm_var (pv 4)) (pm_var (pv 7)) (nomark _))))))) (fun _ _ _ _ _ => pm_int)) pma_nil)))))) (pmss_one (pms_ret (pm_var (pv 3)))))))
theorem ok_Stair_need_like (T : Txt P K mg A D0) (TB : Tbs base mg A) : FnOk P wo K mg base (L2.CX P wo) 3 A.Stair_need_like D0.Stair_need_like ["self", "other"] (spM (W8 K A) 2 F_Stair_need_like) := by
  refine fn_ok (wd := W8 K A) T.f_Stair_need_like sc_Stair_need_like (by decide) (fun cdv Ar outer s H E hr => ?_)
  exact (pmss_cons (pms_if (pmt_not (pmt_truth rfl (pm_b (b_isi rfl (K8 T)) rfl T.n_isinstance bt_isinstance (pma_cons (pm_var (pv 1)) (pma_cons (pm_c (pe_glob (v := .ref A.Stair) rfl T.m_Stair rfl) (fun _ => rep_cls (c := 39))) pma_nil))))) (pmss_one (pms_raise1 (c := 18) rfl (takes_of rfl rfl rfl rfl) T.er_BadAsk (ok_BadAsk_init T TB) (hr.mono (by decide)) T.b_BadAsk_init rfl T.m_BadAsk (pma_cons pm_str pma_nil))) pmss_nil) (pmss_one (pms_if (pmt_cm (c_ne rfl hr) (pm_fld rfl (attr_cons T.cl_Stair T.na_Stair_length attr_nil) (pm_var (pv 0)) rfl) (pm_fld rfl (attr_cons T.cl_Stair T.na_Stair_length attr_nil) (pm_var (pv 1)) rfl) (nomark _)) (pmss_one (pms_raise1 (c := 26) rfl (takes_of rfl rfl rfl rfl) T.er_Unlike (ok_Unlike_init T TB) (hr.mono (by decide)) T.b_Unlike_init rfl T.m_Unlike (pma_cons pm_str pma_nil))) pmss_nil)))
theorem ok_Stair_over (T : Txt P K mg A D0) (TB : Tbs base mg A) : FnOk P wo K mg base (L2.CX P wo) 1 A.Stair_over D0.Stair_over ["self", "other"] (spM (W8 K A) 2 F_Stair_over) := by
  refine fn_ok (wd := W8 K A) T.f_Stair_over sc_Stair_over (by decide) (fun cdv Ar outer s H E hr => ?_)
  exact (pmss_cons (pms_par (i := 2) (j := 3) rfl sc_Stair_over.nd rfl rfl (by decide) rfl rfl (pma_cons (pm_op8 o_sub (pm_fld rfl (attr_cons T.cl_Stair T.na_Stair_base attr_nil) (pm_var (pv 0)) rfl) (pm_fld rfl (attr_cons T.cl_Stair T.na_Stair_base attr_nil) (pm_var (pv 1)) rfl)) (pma_cons pm_int pma_nil)) (by rfl)) (pmss_cons (pms_for (passes_of rfl) rfl (pmi_enumT rfl rfl T.n_enumerate (pma_cons (pm_fld rfl (attr_cons T.cl_Stair T.na_Stair_rises attr_nil) (pm_var (pv 0)) rfl) pma_nil)) (pgm_tp rfl rfl (pgms_cons (pgm_nm (i := 4) sc_Stair_over.nd rfl (Or.inl rfl)) (pgms_cons (pgm_nm (i := 5) sc_Stair_over.nd rfl (Or.inr rfl)) pgms_nil))) (pmss_cons (pms_set (i := 6) sc_Stair_over.nd rfl (Or.inl rfl) (pm_op8 o_sub (pm_op8 o_sub (pm_op8 (o_add rfl) (pm_op8 (o_add rfl) (pm_fld rfl (attr_cons T.cl_Stair T.na_Stair_base attr_nil) (pm_var (pv 0)) rfl) (pm_var (pv 4))) pm_int) (pm_fld rfl (attr_cons T.cl_Stair T.na_Stair_base attr_nil) (pm_var (pv 1)) rfl)) (pm_b (b_len rfl) rfl T.n_len bt_len (pma_cons (pm_lc (own := [("later", 7)]) (p := (.nm 7)) rfl sc_Stair_over.nd (pmi_seq rfl (pm_fld rfl (attr_cons T.cl_Stair T.na_Stair_rises attr_nil) (pm_var (pv 1)) rfl)) (blkOk_by (own := [("later", 7)]) (N := ["self", "other", "best", "spot", "at", "rise", "value", "later"]) (sc := defScope s_Stair_over) (by decide +kernel)) (by rfl) (fun _ _ _ _ _ => (pgm_nm (i := 7) sc_Stair_over.nd rfl (Or.inl rfl))) (fun _ _ _ _ _ => (pmts_one (pmt_cm c_le (pm_var (pv 7)) (pm_var (pv 5)) (nomark _)))) (fun _ _ _ _ _ => pm_int)) pma_nil)))) (pmss_one (pms_if (PW.pt (pmw_and (pmt_cm c_lt (pm_var (pv 5)) (pm_fld rfl (attr_cons T.cl_Stair T.na_Stair_length attr_nil) (pm_var (pv 0)) rfl) (nomark _)) (pmw_and1 (pmt_cm c_gt (pm_var (pv 6)) (pm_var (pv 2)) (nomark _))))) (pmss_one (pms_par (i := 2) (j := 3) rfl sc_Stair_over.nd rfl rfl (by decide) rfl rfl (pma_cons (pm_var (pv 6)) (pma_cons (pm_var (pv 5)) pma_nil)) (by rfl))) pmss_nil)))) (pmss_one (pms_ret (pm_tup (pma_cons (pm_var (pv 2)) (pma_cons (pm_var (pv 3)) pma_nil)))))))
theorem ok_Stair_le (T : Txt P K mg A D0) (TB : Tbs base mg A) : FnOk P wo K mg base (L2.CX P wo) 4 A.Stair_le D0.Stair_le ["self", "other"] (spM (W8 K A) 2 F_Stair_le) := by
  refine fn_ok (wd := W8 K A) T.f_Stair_le sc_Stair_le (by decide) (fun cdv Ar outer s H E hr => ?_)
  exact (pmss_cons (pms_expr (pm_meth (mall_cons (c := 39) T.cl_Stair T.me_Stair_need_like (ok_Stair_need_like T TB) ar_Stair_need_like (hr.mono (by decide)) T.b_Stair_need_like mall_nil) (passes_call (takes_of rfl rfl rfl rfl) (fun _ _ _ _ h => h)) (pm_var (pv 0)) (pma_cons (pm_var (pv 1)) pma_nil))) (pmss_one (pms_ret (pm_and (pm_cmp c_le (pm_fld rfl (attr_cons T.cl_Stair T.na_Stair_step attr_nil) (pm_var (pv 0)) rfl) (pm_fld rfl (attr_cons T.cl_Stair T.na_Stair_step attr_nil) (pm_var (pv 1)) rfl) (nomark _)) (pm_one (pm_cmp c_le (pm_ix rfl (pm_meth (mall_cons (c := 39) T.cl_Stair T.me_Stair_over (ok_Stair_over T TB) ar_Stair_over (hr.mono (by decide)) T.b_Stair_over mall_nil) (passes_call (takes_of rfl rfl rfl rfl) (fun _ _ _ _ h => h)) (pm_var (pv 0)) (pma_cons (pm_var (pv 1)) pma_nil)) pm_int (fun _ _ => rfl)) pm_int (nomark _)))))))
theorem ok_Stair_sub (T : Txt P K mg A D0) (TB : Tbs base mg A) : FnOk P wo K mg base (L2.CX P wo) 4 A.Stair_sub D0.Stair_sub ["self", "other"] (spM (W8 K A) 2 F_Stair_sub) := by
  refine fn_ok (wd := W8 K A) T.f_Stair_sub sc_Stair_sub (by decide) (fun cdv Ar outer s H E hr => ?_)
  exact (pmss_cons (pms_expr (pm_meth (mall_cons (c := 39) T.cl_Stair T.me_Stair_need_like (ok_Stair_need_like T TB) ar_Stair_need_like (hr.mono (by decide)) T.b_Stair_need_like mall_nil) (passes_call (takes_of rfl rfl rfl rfl) (fun _ _ _ _ h => h)) (pm_var (pv 0)) (pma_cons (pm_var (pv 1)) pma_nil))) (pmss_one (pms_ret (pm_ifExp (pmt_cm c_gt (pm_fld rfl (attr_cons T.cl_Stair T.na_Stair_step attr_nil) (pm_var (pv 0)) rfl) (pm_fld rfl (attr_cons T.cl_Stair T.na_Stair_step attr_nil) (pm_var (pv 1)) rfl) (nomark _)) pm_non (pm_ix rfl (pm_meth (mall_cons (c := 39) T.cl_Stair T.me_Stair_over (ok_Stair_over T TB) ar_Stair_over (hr.mono (by decide)) T.b_Stair_over mall_nil) (passes_call (takes_of rfl rfl rfl rfl) (fun _ _ _ _ h => h)) (pm_var (pv 0)) (pma_cons (pm_var (pv 1)) pma_nil)) pm_int (fun _ _ => rfl))))))
theorem ok_Stair_eq (T : Txt P K mg A D0) (TB : Tbs base mg A) : FnOk P wo K mg base (L2.CX P wo) 1 A.Stair_eq D0.Stair_eq ["self", "other"] (spM (W8 K A) 2 F_Stair_eq) := by
  refine fn_ok (wd := W8 K A) T.f_Stair_eq sc_Stair_eq (by decide) (fun cdv Ar outer s H E hr => ?_)
  exact (pmss_cons (pms_if (pmt_not (pmt_truth rfl (pm_b (b_isi rfl (K8 T)) rfl T.n_isinstance bt_isinstance (pma_cons (pm_var (pv 1)) (pma_cons (pm_c (pe_glob (v := .ref A.Stair) rfl T.m_Stair rfl) (fun _ => rep_cls (c := 39))) pma_nil))))) (pmss_one (pms_ret pm_bl)) pmss_nil) (pmss_cons (pms_set (i := 2) sc_Stair_eq.nd rfl (Or.inl rfl) (pm_tup (pma_cons (pm_fld rfl (attr_cons T.cl_Stair T.na_Stair_length attr_nil) (pm_var (pv 0)) rfl) (pma_cons (pm_fld rfl (attr_cons T.cl_Stair T.na_Stair_base attr_nil) (pm_var (pv 0)) rfl) (pma_cons (pm_fld rfl (attr_cons T.cl_Stair T.na_Stair_rises attr_nil) (pm_var (pv 0)) rfl) (pma_cons (pm_fld rfl (attr_cons T.cl_Stair T.na_Stair_step attr_nil) (pm_var (pv 0)) rfl) pma_nil)))))) (pmss_one (pms_ret (pm_cmp (c_eq rfl hr) (pm_var (pv 2)) (pm_tup (pma_cons (pm_fld rfl (attr_cons T.cl_Stair T.na_Stair_length attr_nil) (pm_var (pv 1)) rfl) (pma_cons (pm_fld rfl (attr_cons T.cl_Stair T.na_Stair_base attr_nil) (pm_var (pv 1)) rfl) (pma_cons (pm_fld rfl (attr_cons T.cl_Stair T.na_Stair_rises attr_nil) (pm_var (pv 1)) rfl) (pma_cons (pm_fld rfl (attr_cons T.cl_Stair T.na_Stair_step attr_nil) (pm_var (pv 1)) rfl) pma_nil))))) (nomark _))))))
theorem ok_two_right (T : Txt P K mg A D0) (TB : Tbs base mg A) : FnG P wo K mg base (L2.CX P wo) 5 A.two_right D0.two_right ["_law_size", "_law_parts_here", "_law_more"] (spM (W8 K A) 3 F_two_right) := by
  refine fn_okG (wd := W8 K A) T.f_two_right sc_two_right (by decide) (fun cdv Ar outer s H E hg hr => ?_)
  exact (pmss_cons (pms_par (i := 6) (j := 7) rfl sc_two_right.nd rfl rfl (by decide) rfl rfl (pma_cons (pm_call (ok_made T TB) ar_made (hr.mono (by decide)) rfl T.m_made T.f_made.kp T.b_made (passes_call (takes_of rfl rfl rfl rfl) (fun _ _ _ _ h => h)) (pma_cons (pm_var (pv 1)) (pma_cons (pm_var (pv 0)) pma_nil))) (pma_cons (pm_call (ok_made T TB) ar_made (hr.mono (by decide)) rfl T.m_made T.f_made.kp T.b_made (passes_call (takes_of rfl rfl rfl rfl) (fun _ _ _ _ h => h)) (pma_cons (pm_var (pv 2)) (pma_cons (pm_var (pv 0)) pma_nil))) pma_nil)) (by rfl)) (pmss_cons (pms_setLc (i := 3) (own := [("_law_pause", 8)]) (p := (.nm 8)) rfl sc_two_right.nd rfl rfl (sw_true rfl rfl rfl (by decide +kernel)) (pmi_range1 rfl T.n_range (pma_cons (pm_op8 (o_add rfl) (pm_var (pv 0)) pm_int) pma_nil)) (blkOk_by (own := [("_law_pause", 8)]) (N := ["_law_size", "_law_parts_here", "_law_more", "_law_gaps", "_law_due", "_law_is_like", "_law_one", "_law_other", "_law_pause", "_law_gap"]) (sc := defScope s_two_right) (by decide +kernel)) (by rfl) (fun _ _ _ _ _ => (pgm_nm (i := 8) sc_two_right.nd rfl (Or.inl rfl))) (fun _ _ _ _ _ => pmts_nil) (fun _ _ _ _ _ => (pm_op8 o_sub (pm_call (ok_value T TB) ar_value (hr.mono (by decide)) rfl T.m_value T.f_value.kp T.b_value pass0E (pma_cons (pm_var (pv 1)) (pma_cons (pm_var (pv 0)) (pma_cons (pm_var (pv 8)) pma_nil)))) (pm_call (ok_value T TB) ar_value (hr.mono (by decide)) rfl T.m_value T.f_value.kp T.b_value pass0E (pma_cons (pm_var (pv 2)) (pma_cons (pm_var (pv 0)) (pma_cons (pm_var (pv 8)) pma_nil))))))) (pmss_cons (pms_set (i := 4) sc_two_right.nd rfl (Or.inl rfl) (pm_ifExp (pmt_cm c_le (pm_b (b_len rfl) rfl T.n_len bt_len (pma_cons (pm_ix rfl (pm_var (pv 1)) pm_int (fun _ _ => rfl)) pma_nil)) (pm_b (b_len rfl) rfl T.n_len bt_len (pma_cons (pm_ix rfl (pm_var (pv 2)) pm_int (fun _ _ => rfl)) pma_nil)) (nomark _)) (pm_b (b_maxL rfl rfl) rfl T.n_max bt_max (pma_cons (pm_lc (own := [("_law_gap", 9)]) (p := (.nm 9)) rfl sc_two_right.nd (pmi_seq rfl (pm_var (pv 3))) (blkOk_by (own := [("_law_gap", 9)]) (N := ["_law_size", "_law_parts_here", "_law_more", "_law_gaps", "_law_due", "_law_is_like", "_law_one", "_law_other", "_law_pause", "_law_gap"]) (sc := defScope s_two_right) (by decide +kernel)) (by rfl) (fun _ _ _ _ _ => (pgm_nm (i := 9) sc_two_right.nd rfl (Or.inl rfl))) (fun _ _ _ _ _ => pmts_nil) (fun _ _ _ _ _ => (pm_ty b_int rfl T.n_int bt_int (pma_cons (pm_var (pv 9)) pma_nil)))) pma_nil)) pm_non)) (pmss_cons (pms_if (PW.pt (pmw_or (pmt_cm (c_ne rfl hr) (pm_b (b_repr rfl hg hr) rfl T.n_repr bt_repr (pma_cons (pm_op8 (o_ownS ⟨T.x_sf_Stair, T.x_od_Stair_Sub, T.x_if_Stair_sub⟩ (ok_Stair_sub T TB) ar_Stair_sub (hr.mono (by decide)) T.b_Stair_sub (passes_call (takes_of rfl rfl rfl rfl) (fun _ _ _ _ h => h))) (pm_var (pv 6)) (pm_var (pv 7))) pma_nil)) (pm_b (b_repr rfl hg hr) rfl T.n_repr bt_repr (pma_cons (pm_var (pv 4)) pma_nil)) (nomark _)) (pmw_or1 (pmt_cm (c_ne rfl hr) (pm_b (b_repr rfl hg hr) rfl T.n_repr bt_repr (pma_cons (pm_cmp (c_own rfl rich_le T.co_Stair_LtE (ok_Stair_le T TB) ar_Stair_le (hr.mono (by decide)) T.b_Stair_le (passes_call (takes_of rfl rfl rfl rfl) (fun _ _ _ _ h => h)) (K8 T).own (nf_Stair T)) (pm_var (pv 6)) (pm_var (pv 7)) (nomark _)) pma_nil)) (pm_b (b_repr rfl hg hr) rfl T.n_repr bt_repr (pma_cons (pm_and (pm_cmp c_notN (pm_var (pv 4)) pm_non (nomark _)) (pm_one (pm_cmp c_le (pm_var (pv 4)) pm_int (nomark _)))) pma_nil)) (nomark _))))) (pmss_one (pms_ret pm_bl)) pmss_nil) (pmss_cons (pms_set (i := 5) sc_two_right.nd rfl (Or.inl rfl) (pm_cmp (c_eq rfl hr) (pm_var (pv 1)) (pm_var (pv 2)) (nomark _))) (pmss_one (pms_ret (pm_cmp (c_eq rfl hr) (pm_b (b_repr rfl hg hr) rfl T.n_repr bt_repr (pma_cons (pm_lst (pma_cons (pm_cmp (c_own rfl rich_eq T.co_Stair_Eq (ok_Stair_eq T TB) ar_Stair_eq (hr.mono (by decide)) T.b_Stair_eq (passes_call (takes_of rfl rfl rfl rfl) (fun _ _ _ _ h => h)) (K8 T).own (nf_Stair T)) (pm_var (pv 6)) (pm_var (pv 7)) (nomark _)) (pma_cons (pm_cmp (c_ownNe rfl T.ne_Stair (ok_Stair_eq T TB) ar_Stair_eq (hr.mono (by decide)) T.b_Stair_eq (passes_call (takes_of rfl rfl rfl rfl) (fun _ _ _ _ h => h)) (K8 T).own (nf_Stair T)) (pm_var (pv 6)) (pm_var (pv 7)) (nomark _)) pma_nil))) pma_nil)) (pm_b (b_repr rfl hg hr) rfl T.n_repr bt_repr (pma_cons (pm_lst (pma_cons (pm_var (pv 5)) (pma_cons (pm_not (pm_var (pv 5))) pma_nil))) pma_nil)) (nomark _)))))))))
theorem ok_is_integer (T : Txt P K mg A D0) (TB : Tbs base mg A) : FnOk P wo K mg base (L2.CX P wo) 1 A.is_integer D0.is_integer ["value"] (spM (W8 K A) 1 F_is_integer) := by
  refine fn_ok (wd := W8 K A) T.f_is_integer sc_is_integer (by decide) (fun cdv Ar outer s H E hr => ?_)
  exact (pmss_one (pms_ret (pm_and (pm_b (b_isi rfl (K8 T)) rfl T.n_isinstance bt_isinstance (pma_cons (pm_var (pv 0)) (pma_cons (pm_c (pe_bltn (v := .ty "int") rfl T.n_int bt_int rfl) (fun _ => rep_ty)) pma_nil))) (pm_one (pm_not (pm_b (b_isi rfl (K8 T)) rfl T.n_isinstance bt_isinstance (pma_cons (pm_var (pv 0)) (pma_cons (pm_c (pe_bltn (v := .ty "bool") rfl T.n_bool bt_bool rfl) (fun _ => rep_ty)) pma_nil))))))))
theorem ok_Stair_call (T : Txt P K mg A D0) (TB : Tbs base mg A) : FnOk P wo K mg base (L2.CX P wo) 3 A.Stair_call D0.Stair_call ["self", "m"] (spM (W8 K A) 2 F_Stair_call) := by
  refine fn_ok (wd := W8 K A) T.f_Stair_call sc_Stair_call (by decide) (fun cdv Ar outer s H E hr => ?_)
  exact (pmss_cons (pms_if (PW.pt (pmw_or (pmt_not (pmt_truth rfl (pm_call (ok_is_integer T TB) ar_is_integer (hr.mono (by decide)) rfl T.m_is_integer T.f_is_integer.kp T.b_is_integer (passes_call (takes_of rfl rfl rfl rfl) (fun _ _ _ _ h => h)) (pma_cons (pm_var (pv 1)) pma_nil)))) (pmw_or1 (pmt_cm c_lt (pm_var (pv 1)) pm_int (nomark _))))) (pmss_one (pms_raise1 (c := 12) rfl (takes_of rfl rfl rfl rfl) T.er_BadNumber (ok_BadNumber_init T TB) (hr.mono (by decide)) T.b_BadNumber_init rfl T.m_BadNumber (pma_cons (pm_var (pv 1)) pma_nil))) pmss_nil) (pmss_cons (pms_asg (pm_tup (pma_cons (pm_op8 o_fdiv (pm_var (pv 1)) (pm_fld rfl (attr_cons T.cl_Stair T.na_Stair_length attr_nil) (pm_var (pv 0)) rfl)) (pma_cons (pm_op8 o_mod (pm_var (pv 1)) (pm_fld rfl (attr_cons T.cl_Stair T.na_Stair_length attr_nil) (pm_var (pv 0)) rfl)) pma_nil))) (pgm_tp rfl rfl (pgms_cons (pgm_nm (i := 2) sc_Stair_call.nd rfl (Or.inl rfl)) (pgms_cons (pgm_nm (i := 3) sc_Stair_call.nd rfl (Or.inr rfl)) pgms_nil)))) (pmss_one (pms_ret (pm_op8 (o_add rfl) (pm_op8 (o_add rfl) (pm_fld rfl (attr_cons T.cl_Stair T.na_Stair_base attr_nil) (pm_var (pv 0)) rfl) (pm_op8 o_mul0 (pm_var (pv 2)) (pm_fld rfl (attr_cons T.cl_Stair T.na_Stair_step attr_nil) (pm_var (pv 0)) rfl))) (pm_b (b_len rfl) rfl T.n_len bt_len (pma_cons (pm_lc (own := [("rise", 4)]) (p := (.nm 4)) rfl sc_Stair_call.nd (pmi_seq rfl (pm_fld rfl (attr_cons T.cl_Stair T.na_Stair_rises attr_nil) (pm_var (pv 0)) rfl)) (blkOk_by (own := [("rise", 4)]) (N := ["self", "m", "days", "rest", "rise"]) (sc := defScope s_Stair_call) (by decide +kernel)) (by rfl) (fun _ _ _ _ _ => (pgm_nm (i := 4) sc_Stair_call.nd rfl (Or.inl rfl))) (fun _ _ _ _ _ => (pmts_one (pmt_cm c_le (pm_var (pv 4)) (pm_var (pv 3)) (nomark _)))) (fun _ _ _ _ _ => pm_int)) pma_nil)))))))
theorem ok_Stair_longest_pause (T : Txt P K mg A D0) (TB : Tbs base mg A) : FnOk P wo K mg base (L2.CX P wo) 1 A.Stair_longest_pause D0.Stair_longest_pause ["self", "number"] (spM (W8 K A) 2 F_Stair_longest_pause) := by
  refine fn_ok (wd := W8 K A) T.f_Stair_longest_pause sc_Stair_longest_pause (by decide) (fun cdv Ar outer s H E hr => ?_)
  exact (pmss_cons (pms_if (pmt_cm c_lt (pm_var (pv 1)) (pm_fld rfl (attr_cons T.cl_Stair T.na_Stair_base attr_nil) (pm_var (pv 0)) rfl) (nomark _)) (pmss_one (pms_ret (pm_neg pm_int))) pmss_nil) (pmss_cons (pms_if (pmt_cm (c_eq rfl hr) (pm_fld rfl (attr_cons T.cl_Stair T.na_Stair_step attr_nil) (pm_var (pv 0)) rfl) pm_int (nomark _)) (pmss_one (pms_ret pm_non)) pmss_nil) (pmss_cons (pms_set (i := 2) sc_Stair_longest_pause.nd rfl (Or.inl rfl) (pm_op8 o_sub (pm_var (pv 1)) (pm_fld rfl (attr_cons T.cl_Stair T.na_Stair_base attr_nil) (pm_var (pv 0)) rfl))) (pmss_one (pms_ret (pm_op8 o_sub (pm_op8 (o_add rfl) (pm_ix rfl (pm_fld rfl (attr_cons T.cl_Stair T.na_Stair_rises attr_nil) (pm_var (pv 0)) rfl) (pm_op8 o_mod (pm_var (pv 2)) (pm_fld rfl (attr_cons T.cl_Stair T.na_Stair_step attr_nil) (pm_var (pv 0)) rfl)) (fun _ _ => rfl)) (pm_op8 o_mul0 (pm_fld rfl (attr_cons T.cl_Stair T.na_Stair_length attr_nil) (pm_var (pv 0)) rfl) (pm_op8 o_fdiv (pm_var (pv 2)) (pm_fld rfl (attr_cons T.cl_Stair T.na_Stair_step attr_nil) (pm_var (pv 0)) rfl)))) pm_int))))))
theorem ok_one_right (T : Txt P K mg A D0) (TB : Tbs base mg A) : FnG P wo K mg base (L2.CX P wo) 4 A.one_right D0.one_right ["_law_pen_here", "_law_size", "_law_parts_here"] (spM (W8 K A) 3 F_one_right) := by
  refine fn_okG (wd := W8 K A) T.f_one_right sc_one_right (by decide) (fun cdv Ar outer s H E hg hr => ?_)
  exact (pmss_cons (pms_asg (pm_tup (pma_cons (pm_call (ok_made T TB) ar_made (hr.mono (by decide)) rfl T.m_made T.f_made.kp T.b_made (passes_call (takes_of rfl rfl rfl rfl) (fun _ _ _ _ h => h)) (pma_cons (pm_var (pv 2)) (pma_cons (pm_var (pv 1)) pma_nil))) (pma_cons (pm_ix rfl (pm_var (pv 2)) pm_int (fun _ _ => rfl)) (pma_cons (pm_b (b_len rfl) rfl T.n_len bt_len (pma_cons (pm_ix rfl (pm_var (pv 2)) pm_int (fun _ _ => rfl)) pma_nil)) pma_nil)))) (pgm_tp rfl rfl (pgms_cons (pgm_nm (i := 8) sc_one_right.nd rfl (Or.inr rfl)) (pgms_cons (pgm_nm (i := 9) sc_one_right.nd rfl (Or.inl rfl)) (pgms_cons (pgm_nm (i := 10) sc_one_right.nd rfl (Or.inl rfl)) pgms_nil))))) (pmss_cons (pms_set (i := 3) sc_one_right.nd rfl (Or.inr rfl) (pm_lc (own := [("_law_pause", 12)]) (p := (.nm 12)) rfl sc_one_right.nd (pmi_range1 rfl T.n_range (pma_cons (pm_op8 (o_add rfl) (pm_op8 o_mul0 pm_int (pm_var (pv 1))) pm_int) pma_nil)) (blkOk_by (own := [("_law_pause", 12)]) (N := ["_law_pen_here", "_law_size", "_law_parts_here", "_law_values", "_law_days", "_law_count", "_law_far", "_law_spot", "_law_made_here", "_law_ground", "_law_many", "_law_due", "_law_pause"]) (sc := defScope s_one_right) (by decide +kernel)) (by rfl) (fun _ _ _ _ _ => (pgm_nm (i := 12) sc_one_right.nd rfl (Or.inl rfl))) (fun _ _ _ _ _ => pmts_nil) (fun _ _ _ _ _ => (pm_call (ok_value T TB) ar_value (hr.mono (by decide)) rfl T.m_value T.f_value.kp T.b_value pass0E (pma_cons (pm_var (pv 2)) (pma_cons (pm_var (pv 1)) (pma_cons (pm_var (pv 12)) pma_nil))))))) (pmss_cons (pms_if (pmt_cm (c_ne rfl hr) (pm_b (b_repr rfl hg hr) rfl T.n_repr bt_repr (pma_cons (pm_lc (own := [("_law_pause", 12)]) (p := (.nm 12)) rfl sc_one_right.nd (pmi_range1 rfl T.n_range (pma_cons (pm_op8 (o_add rfl) (pm_op8 o_mul0 pm_int (pm_var (pv 1))) pm_int) pma_nil)) (blkOk_by (own := [("_law_pause", 12)]) (N := ["_law_pen_here", "_law_size", "_law_parts_here", "_law_values", "_law_days", "_law_count", "_law_far", "_law_spot", "_law_made_here", "_law_ground", "_law_many", "_law_due", "_law_pause"]) (sc := defScope s_one_right) (by decide +kernel)) (by rfl) (fun _ _ _ _ _ => (pgm_nm (i := 12) sc_one_right.nd rfl (Or.inl rfl))) (fun _ _ _ _ _ => pmts_nil) (fun _ _ _ _ _ => (pm_callO (n := 2) ⟨T.me_Stair_call.at_, T.me_Stair_call.fn, T.x_fn_Stair_call⟩ (ok_Stair_call T TB) ar_Stair_call (hr.mono (by decide)) T.b_Stair_call pass0E (pm_var (pv 8)) (pma_cons (pm_var (pv 12)) pma_nil)))) pma_nil)) (pm_b (b_repr rfl hg hr) rfl T.n_repr bt_repr (pma_cons (pm_var (pv 3)) pma_nil)) (nomark _)) (pmss_one (pms_ret pm_bl)) pmss_nil) (pmss_cons (pms_set (i := 4) sc_one_right.nd rfl (Or.inl rfl) (pm_op8 (o_add rfl) (pm_op8 o_pow pm_int pm_int) (pm_call (ok_draw T TB) ar_draw (hr.mono (by decide)) rfl T.m_draw T.f_draw.kp T.b_draw (passes_call (takes_of rfl rfl rfl rfl) (fun _ _ _ _ h => h)) (pma_cons (pm_var (pv 0)) (pma_cons pm_int pma_nil))))) (pmss_cons (pms_if (PW.pt (pmw_or (pmt_cm (c_ne rfl hr) (pm_callO (n := 2) ⟨T.me_Stair_call.at_, T.me_Stair_call.fn, T.x_fn_Stair_call⟩ (ok_Stair_call T TB) ar_Stair_call (hr.mono (by decide)) T.b_Stair_call (passes_call (takes_of rfl rfl rfl rfl) (fun _ _ _ _ h => h)) (pm_var (pv 8)) (pma_cons (pm_op8 (o_add rfl) (pm_op8 o_mul0 (pm_var (pv 4)) (pm_var (pv 1))) pm_int) pma_nil)) (pm_op8 (o_add rfl) (pm_ix rfl (pm_var (pv 3)) pm_int (fun _ _ => rfl)) (pm_op8 o_mul0 (pm_var (pv 4)) (pm_var (pv 10)))) (nomark _)) (pmw_or1 (pmt_cm (c_ne rfl hr) (pm_meth (mall_cons (c := 39) T.cl_Stair T.me_Stair_longest_pause (ok_Stair_longest_pause T TB) ar_Stair_longest_pause (hr.mono (by decide)) T.b_Stair_longest_pause mall_nil) (passes_call (takes_of rfl rfl rfl rfl) (fun _ _ _ _ h => h)) (pm_var (pv 8)) (pma_cons (pm_op8 o_sub (pm_var (pv 9)) pm_int) pma_nil)) (pm_neg pm_int) (nomark _))))) (pmss_one (pms_ret pm_bl)) pmss_nil) (pmss_cons (pms_for (passes_of rfl) rfl (pmi_range2 rfl T.n_range (pma_cons (pm_var (pv 9)) (pma_cons (pm_op8 (o_add rfl) (pm_op8 (o_add rfl) (pm_var (pv 9)) (pm_var (pv 10))) pm_int) pma_nil))) (pgm_nm (i := 5) sc_one_right.nd rfl (Or.inr rfl)) (pmss_cons (pms_set (i := 11) sc_one_right.nd rfl (Or.inl rfl) (pm_ifExp (pmt_cm c_gt (pm_var (pv 10)) pm_int (nomark _)) (pm_b (b_maxL rfl rfl) rfl T.n_max bt_max (pma_cons (pm_lc (own := [("_law_pause", 12)]) (p := (.nm 12)) rfl sc_one_right.nd (pmi_range1 rfl T.n_range (pma_cons (pm_op8 (o_add rfl) (pm_op8 o_mul0 pm_int (pm_var (pv 1))) pm_int) pma_nil)) (blkOk_by (own := [("_law_pause", 12)]) (N := ["_law_pen_here", "_law_size", "_law_parts_here", "_law_values", "_law_days", "_law_count", "_law_far", "_law_spot", "_law_made_here", "_law_ground", "_law_many", "_law_due", "_law_pause"]) (sc := defScope s_one_right) (by decide +kernel)) (by rfl) (fun _ _ _ _ _ => (pgm_nm (i := 12) sc_one_right.nd rfl (Or.inl rfl))) (fun _ _ _ _ _ => (pmts_one (pmt_cm c_le (pm_ix rfl (pm_var (pv 3)) (pm_var (pv 12)) (fun _ _ => rfl)) (pm_var (pv 5)) (nomark _)))) (fun _ _ _ _ _ => (pm_ty b_int rfl T.n_int bt_int (pma_cons (pm_var (pv 12)) pma_nil)))) pma_nil)) pm_non)) (pmss_cons (pms_if (PW.pt (pmw_and (pmt_cm c_gt (pm_var (pv 10)) pm_int (nomark _)) (pmw_and1 (pmt_cm (c_eq rfl hr) (pm_var (pv 11)) (pm_op8 (o_add rfl) (pm_op8 o_mul0 pm_int (pm_var (pv 1))) pm_int) (nomark _))))) (pmss_cons (pms_set (i := 11) sc_one_right.nd rfl (Or.inl rfl) (pm_meth (mall_cons (c := 39) T.cl_Stair T.me_Stair_longest_pause (ok_Stair_longest_pause T TB) ar_Stair_longest_pause (hr.mono (by decide)) T.b_Stair_longest_pause mall_nil) (passes_call (takes_of rfl rfl rfl rfl) (fun _ _ _ _ h => h)) (pm_var (pv 8)) (pma_cons (pm_var (pv 5)) pma_nil))) (pmss_one (pms_if (PW.pt (pmw_or (pmt_cm c_gt (pm_callO (n := 2) ⟨T.me_Stair_call.at_, T.me_Stair_call.fn, T.x_fn_Stair_call⟩ (ok_Stair_call T TB) ar_Stair_call (hr.mono (by decide)) T.b_Stair_call (passes_call (takes_of rfl rfl rfl rfl) (fun _ _ _ _ h => h)) (pm_var (pv 8)) (pma_cons (pm_var (pv 11)) pma_nil)) (pm_var (pv 5)) (nomark _)) (pmw_or1 (pmt_cm c_le (pm_callO (n := 2) ⟨T.me_Stair_call.at_, T.me_Stair_call.fn, T.x_fn_Stair_call⟩ (ok_Stair_call T TB) ar_Stair_call (hr.mono (by decide)) T.b_Stair_call (passes_call (takes_of rfl rfl rfl rfl) (fun _ _ _ _ h => h)) (pm_var (pv 8)) (pma_cons (pm_op8 (o_add rfl) (pm_var (pv 11)) pm_int) pma_nil)) (pm_var (pv 5)) (nomark _))))) (pmss_one (pms_ret pm_bl)) pmss_nil))) pmss_nil) (pmss_one (pms_if (pmt_cm (c_ne rfl hr) (pm_b (b_repr rfl hg hr) rfl T.n_repr bt_repr (pma_cons (pm_methK0 (n := 2) (is := [0]) T.cl_Stair T.me_Stair_longest_pause (ok_Stair_longest_pause T TB) ar_Stair_longest_pause (hr.mono (by decide)) (Fun.kbn T.f_Stair_longest_pause (ps := ["self", "number"]) (ks := ["number"]) 1 [0] fun _ _ _ _ _ _ us ws h1 h2 => match us, ws, h1, h2 with | [_], [_], _, _ => rfl) (passes_call (takes_of rfl rfl rfl rfl) (fun _ _ _ _ h => h)) (pm_var (pv 8)) (pmk_cons (pm_var (pv 5)) pmk_nil)) pma_nil)) (pm_b (b_repr rfl hg hr) rfl T.n_repr bt_repr (pma_cons (pm_var (pv 11)) pma_nil)) (nomark _)) (pmss_one (pms_ret pm_bl)) pmss_nil))))) (pmss_cons (pms_set (i := 6) sc_one_right.nd rfl (Or.inl rfl) (pm_op8 (o_add rfl) (pm_op8 o_pow pm_int pm_int) (pm_call (ok_draw T TB) ar_draw (hr.mono (by decide)) rfl T.m_draw T.f_draw.kp T.b_draw (passes_call (takes_of rfl rfl rfl rfl) (fun _ _ _ _ h => h)) (pma_cons (pm_var (pv 0)) (pma_cons pm_int pma_nil))))) (pmss_cons (pms_set (i := 7) sc_one_right.nd rfl (Or.inl rfl) (pm_meth (mall_cons (c := 39) T.cl_Stair T.me_Stair_longest_pause (ok_Stair_longest_pause T TB) ar_Stair_longest_pause (hr.mono (by decide)) T.b_Stair_longest_pause mall_nil) (passes_call (takes_of rfl rfl rfl rfl) (fun _ _ _ _ h => h)) (pm_var (pv 8)) (pma_cons (pm_var (pv 6)) pma_nil))) (pmss_one (pms_ret (pm_ifExp (pmt_cm (c_eq rfl hr) (pm_var (pv 10)) pm_int (nomark _)) (pm_cmp c_isN (pm_var (pv 7)) pm_non (nomark _)) (pm_cmp2 c_le c_lt (pm_callO (n := 2) ⟨T.me_Stair_call.at_, T.me_Stair_call.fn, T.x_fn_Stair_call⟩ (ok_Stair_call T TB) ar_Stair_call (hr.mono (by decide)) T.b_Stair_call (passes_call (takes_of rfl rfl rfl rfl) (fun _ _ _ _ h => h)) (pm_var (pv 8)) (pma_cons (pm_var (pv 7)) pma_nil)) (pm_var (pv 6)) (pm_callO (n := 2) ⟨T.me_Stair_call.at_, T.me_Stair_call.fn, T.x_fn_Stair_call⟩ (ok_Stair_call T TB) ar_Stair_call (hr.mono (by decide)) T.b_Stair_call (passes_call (takes_of rfl rfl rfl rfl) (fun _ _ _ _ h => h)) (pm_var (pv 8)) (pma_cons (pm_op8 (o_add rfl) (pm_var (pv 7)) pm_int) pma_nil))))))))))))))
theorem gives_heard {X : Cx} {cdg : Value} (T : Txt P X.K X.mg A D0) (hrX : Room 1 X.A) (hgX : X.A.guards = some []) : GivesTo X ["_law_ask", "_law_caught", "error"] "_law_heard" (defScope s_heard) A.heard cdg (defBody s_heard) "_law_ask" (X.env.qual ++ "<lambda>") (TTh (W8 X.K A) F_heard) := by
  intro f c' s H Q tl act hc h
  have hg : (cxOf C8.CX0 X.prog X.w X.K X.mg X.base ["_law_ask", "_law_caught", "error"] "_law_heard" (defScope s_heard) A.heard cdg X.A X.stack s H C8.E0).nox.A.guards = some [] := hgX
  have hr : Room 0 (cxOf C8.CX0 X.prog X.w X.K X.mg X.base ["_law_ask", "_law_caught", "error"] "_law_heard" (defScope s_heard) A.heard cdg X.A X.stack s H C8.E0).nox.A := hrX.deeper _
  refine ⟨_, pss_cons (ps_set (i := 1) sc_heard.nd rfl (Or.inl rfl) pe_non) (pss_cons (ps_try_keep (X := (cxOf C8.CX0 X.prog X.w X.K X.mg X.base ["_law_ask", "_law_caught", "error"] "_law_heard" (defScope s_heard) A.heard cdg X.A X.stack s H C8.E0).nox) (c := .ref A.TurnError) (i := 2)
      (tb := fun W D σ H => ∃ Ech : XK, (∀ cls d σ' H', Ech cls d H' → σ'.length = 3 → W cls d σ' H') ∧ σ = [some (.ref f), some .non, none] ∧ H c' = some (CodeO c' (X.env.qual ++ "<lambda>")) ∧ tl Ech H (fun v H1 => ([v] : List V).length ≤ sizeLine ∧ ∀ p, H1 p = none → D.rt (.ref p) (upd H1 p (.lst [v]))))
      (ts := tsKeep) rfl rfl rfl sc_heard.nd rfl rfl ⟨rfl, by decide, .inl T.m_TurnError⟩ L2.takes0 (fun W pn xe tk _ => ?_) (fun a oe cls d pn _ _ => pss_one (ps_set (i := 1) sc_heard.nd rfl (Or.inl rfl) (pv 2))))
    (show PMSs (cxOf C8.CX0 X.prog X.w X.K X.mg X.base ["_law_ask", "_law_caught", "error"] "_law_heard" (defScope s_heard) A.heard cdg X.A X.stack s H C8.E0).nox (W8 X.K A) E0 _ _ from (pmss_cons (pms_if (PW.pt (pmw_and (pmt_truth rfl (pm_b (b_isi rfl (K8 T)) rfl T.n_isinstance bt_isinstance (pma_cons (pm_var (pv 1)) (pma_cons (pm_c (pe_glob (v := .ref A.BadNumber) rfl T.m_BadNumber rfl) (fun _ => rep_cls (c := 12))) pma_nil)))) (pmw_and1 (pmt_truth rfl (pm_b (b_isi rfl (K8 T)) rfl T.n_isinstance bt_isinstance (pma_cons (pm_var (pv 1)) (pma_cons (pm_c (pe_glob (v := .ref A.BadInput) rfl T.m_BadInput rfl) (fun _ => rep_cls (c := 8))) pma_nil))))))) (pmss_one (pms_ret (pm_tup (pma_cons pm_str (pma_cons (pm_b (b_repr2 rfl hg hr) rfl T.n_repr bt_repr (pma_cons (pm_fldE rfl (ef_cons (c := 12) T.er_BadNumber.xf T.nf_BadNumber_value ef_nil) (pm_var (pv 1)) rfl) pma_nil)) pma_nil))))) pmss_nil) (pmss_cons (pms_if (PW.pt (pmw_and (pmt_truth rfl (pm_b (b_isi rfl (K8 T)) rfl T.n_isinstance bt_isinstance (pma_cons (pm_var (pv 1)) (pma_cons (pm_c (pe_glob (v := .ref A.BadAsk) rfl T.m_BadAsk rfl) (fun _ => rep_cls (c := 18))) pma_nil)))) (pmw_and1 (pmt_truth rfl (pm_b (b_isi rfl (K8 T)) rfl T.n_isinstance bt_isinstance (pma_cons (pm_var (pv 1)) (pma_cons (pm_c (pe_glob (v := .ref A.BadInput) rfl T.m_BadInput rfl) (fun _ => rep_cls (c := 8))) pma_nil))))))) (pmss_one (pms_ret (pm_tup (pma_cons pm_str (pma_cons (pm_fldE rfl (ef_cons (c := 18) T.er_BadAsk.xf T.nf_BadAsk_part (ef_cons (c := 26) T.er_Unlike.xf T.nf_Unlike_part ef_nil)) (pm_var (pv 1)) rfl) pma_nil))))) pmss_nil) (pmss_one (pms_ret (pm_ifExp (PW.pt (pmw_and (pmt_truth rfl (pm_b (b_isi rfl (K8 T)) rfl T.n_isinstance bt_isinstance (pma_cons (pm_var (pv 1)) (pma_cons (pm_c (pe_glob (v := .ref A.Unlike) rfl T.m_Unlike rfl) (fun _ => rep_cls (c := 26))) pma_nil)))) (pmw_and1 (pmt_truth rfl (pm_b (b_isi rfl (K8 T)) rfl T.n_isinstance bt_isinstance (pma_cons (pm_var (pv 1)) (pma_cons (pm_c (pe_glob (v := .ref A.Refused) rfl T.m_Refused rfl) (fun _ => rep_cls (c := 9))) pma_nil))))))) (pm_tup (pma_cons pm_str (pma_cons (pm_fldE rfl (ef_cons (c := 18) T.er_BadAsk.xf T.nf_BadAsk_part (ef_cons (c := 26) T.er_Unlike.xf T.nf_Unlike_part ef_nil)) (pm_var (pv 1)) rfl) pma_nil))) (pm_tup (pma_cons pm_str pma_nil))))))))), ?_⟩
  · refine ⟨fun pins s' σ H' D I h' => ?_⟩
    obtain ⟨Ech, hW, rfl, h2, h3⟩ := h'
    exact (pss_one (ps_ret (pe_lst (pa_cons (act _ pn xe Ech _ _ (takes_len tk) hW) pa_nil)))).run pins s' _ H' D I ⟨rfl, h2, h3⟩
  · obtain ⟨Ech, h1, h2, h3⟩ := rdA (Wout := fun _ _ _ _ => False) (K := X.K) (cT := .ref A.TurnError) (w := W8 X.K A) (catch_cons (c := 12) (PySem.W.exm_ref T.te_1 T.te_2 T.te_3 T.te_BadNumber) (catch_cons (c := 18) (PySem.W.exm_ref T.te_1 T.te_2 T.te_3 T.te_BadAsk) (catch_cons (c := 26) (PySem.W.exm_ref T.te_1 T.te_2 T.te_3 T.te_Unlike) catch_nil))) hc h
    exact ⟨Ech, h1, rfl, h2, h3⟩
theorem ok_refused_right (T : Txt P K mg A D0) (TB : Tbs base mg A) : FnG P wo K mg base (L2.CX P wo) 7 A.refused_right D0.refused_right ["_law_pen_here", "_law_size", "_law_parts_here"] (spM (W8 K A) 3 F_refused_right) := by
  refine FnG.gc (fn_okGL (wd := W8 K A) T.f_refused_right sc_refused_right (by decide) (fun Ar outer s H E hg hr => ?_))
  exact (pmss_cons (pms_asg (pm_tup (pma_cons (pm_call (ok_made T TB) ar_made (hr.mono (by decide)) rfl T.m_made T.f_made.kp T.b_made (passes_call (takes_of rfl rfl rfl rfl) (fun _ _ _ _ h => h)) (pma_cons (pm_var (pv 2)) (pma_cons (pm_var (pv 1)) pma_nil))) (pma_cons (pm_call (ok_made T TB) ar_made (hr.mono (by decide)) rfl T.m_made T.f_made.kp T.b_made (passes_call (takes_of rfl rfl rfl rfl) (fun _ _ _ _ h => h)) (pma_cons (pm_var (pv 2)) (pma_cons (pm_op8 (o_add rfl) (pm_var (pv 1)) pm_int) pma_nil))) pma_nil))) (pgm_tp rfl rfl (pgms_cons (pgm_nm (i := 6) sc_refused_right.nd rfl (Or.inr rfl)) (pgms_cons (pgm_nm (i := 7) sc_refused_right.nd rfl (Or.inr rfl)) pgms_nil)))) (pmss_cons (pms_set (i := 3) sc_refused_right.nd rfl (Or.inr rfl) (pm_call (ok_pick T TB) ar_pick (hr.mono (by decide)) rfl T.m_pick T.f_pick.kp T.b_pick (passes_call (takes_of rfl rfl rfl rfl) (fun _ _ _ _ h => h)) (pma_cons (pm_var (pv 0)) (pma_cons (pm_lst (pma_cons pm_non (pma_cons (pm_neg pm_int) (pma_cons pm_bl (pma_cons pm_bl (pma_cons pm_str (pma_cons (pm_tup (pma_cons pm_int pma_nil)) (pma_cons (pm_lst (pma_cons pm_int pma_nil)) (pma_cons pm_dct0 (pma_cons (pm_op8 o_sub pm_int (pm_op8 o_pow pm_int pm_int)) pma_nil)))))))))) pma_nil)))) (pmss_cons (pms_set (i := 4) sc_refused_right.nd rfl (Or.inr rfl) (pm_call (ok_pick T TB) ar_pick (hr.mono (by decide)) rfl T.m_pick T.f_pick.kp T.b_pick (passes_call (takes_of rfl rfl rfl rfl) (fun _ _ _ _ h => h)) (pma_cons (pm_var (pv 0)) (pma_cons (pm_lst (pma_cons pm_non (pma_cons pm_int (pma_cons pm_int (pma_cons pm_bl (pma_cons pm_str (pma_cons (pm_tup (pma_cons pm_int pma_nil)) (pma_cons (pm_lst (pma_cons (pm_var (pv 6)) pma_nil)) (pma_cons pm_dct0 pma_nil))))))))) pma_nil)))) (pmss_cons (pms_set (i := 5) sc_refused_right.nd rfl (Or.inl rfl) (pm_lstM (pma_cons (pm_lam (k := 3) T.f_heard T.b_heard sc_heard (fun _ => gives_heard T (hr.mono (by decide)) hg) rfl T.m_heard TB.t_refused_right rfl (by show _ ∈ Ts A; simp [Ts]; first | rfl | exact .inl rfl | exact .inr rfl | exact .inr (.inl rfl)) (ts_refused_right T) (hr.mono (by decide)) (lamS_by (sc := defScope s_refused_right) (by decide +kernel)) (fun _ _ _ _ _ _ _ hr => (pm_callO (n := 2) ⟨T.me_Stair_call.at_, T.me_Stair_call.fn, T.x_fn_Stair_call⟩ (ok_Stair_call T TB) ar_Stair_call (hr.mono (by decide)) T.b_Stair_call (passes_call (takes_of rfl rfl rfl rfl) (fun _ _ _ _ h => h)) (pm_var (pv 6)) (pma_cons (pm_var (pv 3)) pma_nil)))) pma_nil))) (pmss_cons (pms_expr (pm_append rfl (pe_bm PySem.F.plainAttrs_list PySem.F.slot_list_append PySem.F.type_list_append mt_append (pm_var (pv 5)) (pma_cons (pm_lam (k := 4) T.f_heard T.b_heard sc_heard (fun _ => gives_heard T (hr.mono (by decide)) hg) rfl T.m_heard TB.t_refused_right rfl (by show _ ∈ Ts A; simp [Ts]; first | rfl | exact .inl rfl | exact .inr rfl | exact .inr (.inl rfl)) (ts_refused_right T) (hr.mono (by decide)) (lamS_by (sc := defScope s_refused_right) (by decide +kernel)) (fun _ _ _ _ _ _ _ hr => (pm_op8 (o_ownLs rfl (ownofs_cons T.ow_Stair_Sub_int (ownofs_cons T.ow_Stair_Sub_bool (ownofs_cons T.ow_Stair_Sub_str (ownofs_cons T.ow_Stair_Sub_list (ownofs_cons T.ow_Stair_Sub_tuple (ownofs_cons T.ow_Stair_Sub_dict (ownofs_cons T.ow_Stair_Sub_NoneType ownofs_nil))))))) (ok_Stair_sub T TB) ar_Stair_sub (hr.mono (by decide)) T.b_Stair_sub (passes_call (takes_of rfl rfl rfl rfl) (fun _ _ _ _ h => h))) (pm_var (pv 6)) (pm_var (pv 4))))) pma_nil)))) (pmss_cons (pms_expr (pm_append rfl (pe_bm PySem.F.plainAttrs_list PySem.F.slot_list_append PySem.F.type_list_append mt_append (pm_var (pv 5)) (pma_cons (pm_lam (k := 4) T.f_heard T.b_heard sc_heard (fun _ => gives_heard T (hr.mono (by decide)) hg) rfl T.m_heard TB.t_refused_right rfl (by show _ ∈ Ts A; simp [Ts]; first | rfl | exact .inl rfl | exact .inr rfl | exact .inr (.inl rfl)) (ts_refused_right T) (hr.mono (by decide)) (lamS_by (sc := defScope s_refused_right) (by decide +kernel)) (fun _ _ _ _ _ _ _ hr => (pm_cmp (c_own rfl rich_le T.co_Stair_LtE (ok_Stair_le T TB) ar_Stair_le (hr.mono (by decide)) T.b_Stair_le (passes_call (takes_of rfl rfl rfl rfl) (fun _ _ _ _ h => h)) (K8 T).own (nf_Stair T)) (pm_var (pv 6)) (pm_var (pv 4)) (nomark _)))) pma_nil)))) (pmss_cons (pms_expr (pm_append rfl (pe_bm PySem.F.plainAttrs_list PySem.F.slot_list_append PySem.F.type_list_append mt_append (pm_var (pv 5)) (pma_cons (pm_lam (k := 4) T.f_heard T.b_heard sc_heard (fun _ => gives_heard T (hr.mono (by decide)) hg) rfl T.m_heard TB.t_refused_right rfl (by show _ ∈ Ts A; simp [Ts]; first | rfl | exact .inl rfl | exact .inr rfl | exact .inr (.inl rfl)) (ts_refused_right T) (hr.mono (by decide)) (lamS_by (sc := defScope s_refused_right) (by decide +kernel)) (fun _ _ _ _ _ _ _ hr => (pm_op8 (o_ownS ⟨T.x_sf_Stair, T.x_od_Stair_Sub, T.x_if_Stair_sub⟩ (ok_Stair_sub T TB) ar_Stair_sub (hr.mono (by decide)) T.b_Stair_sub (passes_call (takes_of rfl rfl rfl rfl) (fun _ _ _ _ h => h))) (pm_var (pv 6)) (pm_var (pv 7))))) pma_nil)))) (pmss_cons (pms_expr (pm_append rfl (pe_bm PySem.F.plainAttrs_list PySem.F.slot_list_append PySem.F.type_list_append mt_append (pm_var (pv 5)) (pma_cons (pm_lam (k := 4) T.f_heard T.b_heard sc_heard (fun _ => gives_heard T (hr.mono (by decide)) hg) rfl T.m_heard TB.t_refused_right rfl (by show _ ∈ Ts A; simp [Ts]; first | rfl | exact .inl rfl | exact .inr rfl | exact .inr (.inl rfl)) (ts_refused_right T) (hr.mono (by decide)) (lamS_by (sc := defScope s_refused_right) (by decide +kernel)) (fun _ _ _ _ _ _ _ hr => (pm_cmp (c_own rfl rich_le T.co_Stair_LtE (ok_Stair_le T TB) ar_Stair_le (hr.mono (by decide)) T.b_Stair_le (passes_call (takes_of rfl rfl rfl rfl) (fun _ _ _ _ h => h)) (K8 T).own (nf_Stair T)) (pm_var (pv 7)) (pm_var (pv 6)) (nomark _)))) pma_nil)))) (pmss_cons (pms_if (pmt_cm (c_ne rfl hr) (pm_var (pv 5)) (pm_op8 (o_add rfl) (pm_lst (pma_cons (pm_tup (pma_cons pm_str (pma_cons (pm_b (b_repr2 rfl hg hr) rfl T.n_repr bt_repr (pma_cons (pm_var (pv 3)) pma_nil)) pma_nil))) (pma_cons (pm_tup (pma_cons pm_str (pma_cons pm_str pma_nil))) (pma_cons (pm_tup (pma_cons pm_str (pma_cons pm_str pma_nil))) pma_nil)))) (pm_op8 (o_mul rfl) (pm_lst (pma_cons (pm_tup (pma_cons pm_str (pma_cons pm_str pma_nil))) pma_nil)) pm_int)) (nomark _)) (pmss_one (pms_ret pm_bl)) pmss_nil) (pmss_one (pms_ret (pm_and (pm_cmp (c_ownNe rfl T.ne_Stair (ok_Stair_eq T TB) ar_Stair_eq (hr.mono (by decide)) T.b_Stair_eq (passes_call (takes_of rfl rfl rfl rfl) (fun _ _ _ _ h => h)) (K8 T).own (nf_Stair T)) (pm_var (pv 6)) (pm_var (pv 7)) (nomark _)) (pm_one (pm_cmp (c_notInB rfl ⟨T.x_od_Stair_Eq, T.x_if_Stair_eq, T.x_sb_Stair_int, T.x_sb_Stair_str, T.x_sb_Stair_NoneType, T.x_sb_Stair_tuple⟩ (ok_Stair_eq T TB) ar_Stair_eq (hr.mono (by decide)) T.b_Stair_eq (passes_call (takes_of rfl rfl rfl rfl) (fun _ _ _ _ h => h))) (pm_var (pv 6)) (pm_lst (pma_cons pm_non (pma_cons pm_int (pma_cons (pm_ty (b_tuple rfl) rfl T.n_tuple bt_tuple (pma_cons (pm_var (pv 2)) pma_nil)) (pma_cons (pm_tup (pma_cons (pm_var (pv 1)) (pma_cons (pm_ix rfl (pm_var (pv 2)) pm_int (fun _ _ => rfl)) (pma_cons (pm_ty (b_tuple rfl) rfl T.n_tuple bt_tuple (pma_cons (pm_ix rfl (pm_var (pv 2)) pm_int (fun _ _ => rfl)) pma_nil)) (pma_cons (pm_b (b_len rfl) rfl T.n_len bt_len (pma_cons (pm_ix rfl (pm_var (pv 2)) pm_int (fun _ _ => rfl)) pma_nil)) pma_nil))))) pma_nil))))) (by rfl)))))))))))))))
theorem ok_law (T : Txt P K mg A D0) (TB : Tbs base mg A) : FnG P wo K mg base (L2.CX P wo) 8 A.law D0.law ["_law_script"] (spM (W8 K A) 1 F_law) := by
  refine fn_okG (wd := W8 K A) T.f_law sc_law (by decide) (fun cdv Ar outer s H E hg hr => ?_)
  exact (pmss_cons (pms_set (i := 1) sc_law.nd rfl (Or.inl rfl) (pm_call (ok_pen T TB) ar_pen (hr.mono (by decide)) rfl T.m_pen T.f_pen.kp T.b_pen (passes_call (takes_of rfl rfl rfl rfl) (fun _ _ _ _ h => h)) (pma_cons (pm_var (pv 0)) pma_nil))) (pmss_cons (pms_for (passes_of rfl) rfl (pmi_range1 rfl T.n_range (pma_cons pm_int pma_nil)) (pgm_nm (i := 2) sc_law.nd rfl (Or.inl rfl)) (pmss_cons (pms_set (i := 4) sc_law.nd rfl (Or.inl rfl) (pm_call (ok_pick T TB) ar_pick (hr.mono (by decide)) rfl T.m_pick T.f_pick.kp T.b_pick (passes_call (takes_of rfl rfl rfl rfl) (fun _ _ _ _ h => h)) (pma_cons (pm_var (pv 1)) (pma_cons (pm_lst (pma_cons pm_int (pma_cons pm_int (pma_cons pm_int (pma_cons pm_int (pma_cons (pm_op8 (o_add rfl) pm_int (pm_call (ok_draw T TB) ar_draw (hr.mono (by decide)) rfl T.m_draw T.f_draw.kp T.b_draw (passes_call (takes_of rfl rfl rfl rfl) (fun _ _ _ _ h => h)) (pma_cons (pm_var (pv 1)) (pma_cons pm_int pma_nil)))) pma_nil)))))) pma_nil)))) (pmss_cons (pms_par (i := 6) (j := 5) rfl sc_law.nd rfl rfl (by decide) rfl rfl (pma_cons (pm_call (ok_parts T TB) ar_parts (hr.mono (by decide)) rfl T.m_parts T.f_parts.kp T.b_parts (passes_call (takes_of rfl rfl rfl rfl) (fun _ _ _ _ h => h)) (pma_cons (pm_var (pv 1)) (pma_cons (pm_var (pv 4)) pma_nil))) (pma_cons (pm_call (ok_parts T TB) ar_parts (hr.mono (by decide)) rfl T.m_parts T.f_parts.kp T.b_parts (passes_call (takes_of rfl rfl rfl rfl) (fun _ _ _ _ h => h)) (pma_cons (pm_var (pv 1)) (pma_cons (pm_var (pv 4)) pma_nil))) pma_nil)) (by rfl)) (pmss_cons (pms_set (i := 5) sc_law.nd rfl (Or.inl rfl) (pm_call (ok_pick T TB) ar_pick (hr.mono (by decide)) rfl T.m_pick T.f_pick.kp T.b_pick (passes_call (takes_of rfl rfl rfl rfl) (fun _ _ _ _ h => h)) (pma_cons (pm_var (pv 1)) (pma_cons (pm_lst (pma_cons (pm_var (pv 5)) (pma_cons (pm_var (pv 5)) (pma_cons (pm_var (pv 6)) (pma_cons (pm_tup (pma_cons (pm_op8 (o_add rfl) (pm_ix rfl (pm_var (pv 6)) pm_int (fun _ _ => rfl)) pm_int) (pma_cons (pm_ix rfl (pm_var (pv 6)) pm_int (fun _ _ => rfl)) pma_nil))) (pma_cons (pm_tup (pma_cons (pm_ix rfl (pm_var (pv 6)) pm_int (fun _ _ => rfl)) (pma_cons (pm_sl rfl (pm_ix rfl (pm_var (pv 6)) pm_int (fun _ _ => rfl)) pmo_none (pmo_some (pm_neg pm_int))) pma_nil))) pma_nil)))))) pma_nil)))) (pmss_cons (pms_if (PW.pt (pmw_or (pmt_not (pmt_truth rfl (pm_callG (ok_one_right T TB) ar_one_right hg (hr.mono (by decide)) rfl T.m_one_right T.f_one_right.kp T.b_one_right (passes_call (takes_of rfl rfl rfl rfl) (fun _ _ _ _ h => h)) (pma_cons (pm_var (pv 1)) (pma_cons (pm_var (pv 4)) (pma_cons (pm_var (pv 6)) pma_nil)))))) (pmw_or (pmt_not (pmt_truth rfl (pm_callG (ok_two_right T TB) ar_two_right hg (hr.mono (by decide)) rfl T.m_two_right T.f_two_right.kp T.b_two_right (passes_call (takes_of rfl rfl rfl rfl) (fun _ _ _ _ h => h)) (pma_cons (pm_var (pv 4)) (pma_cons (pm_var (pv 6)) (pma_cons (pm_var (pv 5)) pma_nil)))))) (pmw_or1 (pmt_not (pmt_truth rfl (pm_callG (ok_two_right T TB) ar_two_right hg (hr.mono (by decide)) rfl T.m_two_right T.f_two_right.kp T.b_two_right (passes_call (takes_of rfl rfl rfl rfl) (fun _ _ _ _ h => h)) (pma_cons (pm_var (pv 4)) (pma_cons (pm_var (pv 5)) (pma_cons (pm_var (pv 6)) pma_nil)))))))))) (pmss_one (pms_ret pm_bl)) pmss_nil) (pmss_one (pms_if (pmt_not (pmt_truth rfl (pm_callG (ok_refused_right T TB) ar_refused_right hg (hr.mono (by decide)) rfl T.m_refused_right T.f_refused_right.kp T.b_refused_right (passes_call (takes_of rfl rfl rfl rfl) (fun _ _ _ _ h => h)) (pma_cons (pm_var (pv 1)) (pma_cons (pm_var (pv 4)) (pma_cons (pm_var (pv 6)) pma_nil)))))) (pmss_one (pms_ret pm_bl)) pmss_nil))))))) (pmss_cons (pms_set (i := 3) sc_law.nd rfl (Or.inl rfl) (pm_makeK0 (c := 39) T.mk_Stair (ok_Stair_init T TB) ar_Stair_init (hr.mono (by decide)) rfl T.m_Stair (Fun.kbn T.f_Stair_init (ps := ["self", "length", "base", "rises", "step"]) (ks := ["step", "rises", "base", "length"]) 1 [3, 2, 1, 0] fun _ _ _ _ _ _ us ws h1 h2 => match us, ws, h1, h2 with | [_], [_, _, _, _], _, _ => rfl) (passes_call (takes_of rfl rfl rfl rfl) (fun _ _ _ _ h => h)) (pmk_cons pm_int (pmk_cons (pm_tup (pma_cons pm_int (pma_cons pm_int pma_nil))) (pmk_cons pm_int (pmk_cons pm_int pmk_nil)))))) (pmss_one (pms_ret (pm_cmp (c_eq rfl hr) (pm_lst (pma_cons (pm_callO (n := 2) ⟨T.me_Stair_call.at_, T.me_Stair_call.fn, T.x_fn_Stair_call⟩ (ok_Stair_call T TB) ar_Stair_call (hr.mono (by decide)) T.b_Stair_call (passes_call (takes_of rfl rfl rfl rfl) (fun _ _ _ _ h => h)) (pm_var (pv 3)) (pma_cons pm_int pma_nil)) (pma_cons (pm_callO (n := 2) ⟨T.me_Stair_call.at_, T.me_Stair_call.fn, T.x_fn_Stair_call⟩ (ok_Stair_call T TB) ar_Stair_call (hr.mono (by decide)) T.b_Stair_call (passes_call (takes_of rfl rfl rfl rfl) (fun _ _ _ _ h => h)) (pm_var (pv 3)) (pma_cons pm_int pma_nil)) (pma_cons (pm_callO (n := 2) ⟨T.me_Stair_call.at_, T.me_Stair_call.fn, T.x_fn_Stair_call⟩ (ok_Stair_call T TB) ar_Stair_call (hr.mono (by decide)) T.b_Stair_call (passes_call (takes_of rfl rfl rfl rfl) (fun _ _ _ _ h => h)) (pm_var (pv 3)) (pma_cons pm_int pma_nil)) (pma_cons (pm_callO (n := 2) ⟨T.me_Stair_call.at_, T.me_Stair_call.fn, T.x_fn_Stair_call⟩ (ok_Stair_call T TB) ar_Stair_call (hr.mono (by decide)) T.b_Stair_call (passes_call (takes_of rfl rfl rfl rfl) (fun _ _ _ _ h => h)) (pm_var (pv 3)) (pma_cons pm_int pma_nil)) (pma_cons (pm_meth (mall_cons (c := 39) T.cl_Stair T.me_Stair_longest_pause (ok_Stair_longest_pause T TB) ar_Stair_longest_pause (hr.mono (by decide)) T.b_Stair_longest_pause mall_nil) (passes_call (takes_of rfl rfl rfl rfl) (fun _ _ _ _ h => h)) (pm_var (pv 3)) (pma_cons pm_int pma_nil)) (pma_cons (pm_meth (mall_cons (c := 39) T.cl_Stair T.me_Stair_longest_pause (ok_Stair_longest_pause T TB) ar_Stair_longest_pause (hr.mono (by decide)) T.b_Stair_longest_pause mall_nil) (passes_call (takes_of rfl rfl rfl rfl) (fun _ _ _ _ h => h)) (pm_var (pv 3)) (pma_cons pm_int pma_nil)) pma_nil))))))) (pm_lst (pma_cons pm_int (pma_cons pm_int (pma_cons pm_int (pma_cons pm_int (pma_cons pm_int (pma_cons (pm_neg pm_int) pma_nil))))))) (nomark _)))))))
end
end
end Ol

namespace Ol
open PySem L2 LamX
def isI : D → Bool
  | .int _ => true
  | _ => false
/-- values that the checks speak of -/
def PlainD : D → Prop
  | .non | .bl _ | .int _ | .str _ | .lst _ | .tup _ | .dct _ => True
  | _ => False
theorem e_is_integer {d : D} (S : Store) (h : PlainD d) : F_is_integer [d] S = .ok (.bl (isI d)) S := by
  unfold F_is_integer
  refine (x_run (by rfl)).trans ?_
  cases d <;> first | exact h.elim | simp only [ap_f2, ap_cons, ap_cons2, ap_and, ap_or, ap_not, ap_if, ap_andV, ap_andV2, ap_orV, ap_orV2, ap_notV, ap_notV2, ap_ch1, ap_ch2, ap_ch3, ap_ch4, ap_lst, ap_tup, ap_lstM, ap_sl, ap_sl2, ap_ret, ap_drop, ap_set, ap_nx, ap_asg, ap_par, ap_par3, ap_r1, ap_r2, ap_si1, ap_si2, ap_si3, ap_sf1, ap_sf2, ap_for, ap_lcE, x_var, vK_some, x_c, x_f1, x_f2, x_nil, x_cons, x_and, x_or, x_not, x_if, x_andV, x_orV, x_notV, x_chain, x_lst, x_tup, x_lstM, x_sl, x_seq, sqK_nx, sqK_rt, sqK_bk, sqK_ct, x_ret, x_retN, x_drop, x_next, x_brk, x_cnt, x_set, x_asg, x_par, x_par3, x_raise1, x_raise2, x_setI, x_setF, endK_rt, endK_nx, x_for, x_bind, bd_ok, bd_er, bd_bad, bnd_bd, ret_ap, bad_ap, ite_ap, List.map_cons, List.map_nil, List.length_cons, List.length_nil, List.cons_append, List.nil_append, List.replicate, List.getElem?_cons_zero, List.getElem?_cons_succ, List.set_cons_zero, List.set_cons_succ, if_true, if_false, Bool.true_eq_false, Bool.false_eq_true, Bool.not_true, Bool.not_false, ite_true, ite_false, ↓reduceIte, Nat.reduceSub, Nat.reduceAdd, big, Nat.reduceLeDiff, Nat.zero_le, decide_true, decide_false, eq_self, wp_bd, ap_kW, wp_ok, wp_er, lpQ_nx, lpQ_ct, lpQ_bk, lpQ_rt, x_alt2, kAlt_ok, kAlt_er, kAlt_bad, x_altF, x_callO, ap_co1, ap_co2, isC_ins, x_methK, ap_mk1, ap_mk2, x_kw, ap_kw1, ap_kw2, x_heard, wp_noEr, x_lc, ap_lc, x_app, ap_app1, Nat.reduceLT, Nat.reduceBEq, beq_self_eq_true, dBool, dAdd, dSub, dMul, dMod, dFdiv, dPow, dNeg, dLt, dLe, dGt, dGe, eqG_int, eqG_str, eqG_bl, xor_t, xor_f, dIsN, dNotN, dTru, dIx, dLen, dAbs, dInt, dStr, dMax2, dMin2, dMul8, dRep, dApp, kt0, kt1, kt2, kt3, kt4, kt5, kt6, kt7, kt8, kt9, kt10, kt11, kt12, kt13, kt14, kt15, kt16, kt17, kt18, kt19, kt20, kt21, kt22, kt23, kt24, kt25, kt26, kt27, kt28, kt29, kt30, kt31, kt32, kt33, kt34, kt35, kt36, kt37, kt38, kt39, kt40, kt41, kt42, kt43, kt44, kt45, kt46, kt47, kt48, kt49, kt50, kt51, kt52, kt53, kt54, kt55, kt56, kt57, kt58, kt59, kt60, kt61, kt62, kt63, kt64, kt65, kt66, kt67, kt68, kt69, kt70, kt71, kt72, kt73, kt74, kt75, kt76, kt77, kt78, kt79, kt80, kt81, kt82, kt83, kt84, kt85, kt86, kt87, kty, ko39, ke12, ke18, ke26, dIsi, kindOf, tagOf, clsTag, isI]
theorem e_int (i : Int) (S : Store) : F_is_integer [.int i] S = .ok (.bl true) S := e_is_integer S trivial
def penO (cells : List Int) (spot great : Int) : O := .lst [.lst (cells.map .int), .int spot, .int great]
/-- a pen that n more draws are let of -/
def Pn (P : O) (n : Nat) : Prop := ∃ (cells : List Int) (spot great : Int), P = penO cells spot great ∧ 0 ≤ spot ∧ spot + n ≤ 4000000 ∧ 0 ≤ great ∧ cells.length ≤ 63
theorem Pn.le {P : O} {m n : Nat} (h : Pn P n) (le : m ≤ n) : Pn P m := by
  obtain ⟨c, s, g, h1, h2, h3, h4⟩ := h
  exact ⟨c, s, g, h1, h2, by omega, h4⟩
theorem limL_ints {k : Nat} : ∀ ns : List Int, D.limL k (ns.map .int) = true
  | [] => rfl
  | n :: r => by rw [List.map_cons, D.limL, limL_ints r]; rfl
theorem Pn.lim {P : O} {n : Nat} (h : Pn P n) (k : Nat) : P.lim k = true := by
  obtain ⟨c, s, g, rfl, _⟩ := h
  show D.limL k [.lst (c.map .int), .int s, .int g] = true
  simp [D.limL, D.lim, limL_ints]
theorem cut63D {ns : List Int} (h : ns.length ≤ 63) : cutD (ns.map .int) none (some 63) = ns.map .int := by
  have e1 : HT.sIx (ns.map D.int).length 0 none = 0 := rfl
  have e2 : HT.sIx (ns.map D.int).length (ns.map D.int).length (some 63) = ns.length := by
    unfold HT.sIx
    simp only [List.length_map]
    first | omega | (split <;> omega) | (simp; omega)
  unfold cutD
  rw [e1, e2, List.drop_zero, Nat.sub_zero, ← List.length_map (f := D.int), List.take_length]
theorem e_pen {ns : List Int} (h : ns.length ≤ 63) : ∃ P, F_pen [.scr ns] [] = .ok (.loc 0) [P] ∧ Pn P 4000000 := by
  refine ⟨penO ns 0 0, ?_, ns, 0, 0, rfl, by decide, by decide, by decide, h⟩
  unfold F_pen
  refine (x_run (by rfl)).trans ?_
  simp only [ap_f2, ap_cons, ap_cons2, ap_and, ap_or, ap_not, ap_if, ap_andV, ap_andV2, ap_orV, ap_orV2, ap_notV, ap_notV2, ap_ch1, ap_ch2, ap_ch3, ap_ch4, ap_lst, ap_tup, ap_lstM, ap_sl, ap_sl2, ap_ret, ap_drop, ap_set, ap_nx, ap_asg, ap_par, ap_par3, ap_r1, ap_r2, ap_si1, ap_si2, ap_si3, ap_sf1, ap_sf2, ap_for, ap_lcE, x_var, vK_some, x_c, x_f1, x_f2, x_nil, x_cons, x_and, x_or, x_not, x_if, x_andV, x_orV, x_notV, x_chain, x_lst, x_tup, x_lstM, x_sl, x_seq, sqK_nx, sqK_rt, sqK_bk, sqK_ct, x_ret, x_retN, x_drop, x_next, x_brk, x_cnt, x_set, x_asg, x_par, x_par3, x_raise1, x_raise2, x_setI, x_setF, endK_rt, endK_nx, x_for, x_bind, bd_ok, bd_er, bd_bad, bnd_bd, ret_ap, bad_ap, ite_ap, List.map_cons, List.map_nil, List.length_cons, List.length_nil, List.cons_append, List.nil_append, List.replicate, List.getElem?_cons_zero, List.getElem?_cons_succ, List.set_cons_zero, List.set_cons_succ, if_true, if_false, Bool.true_eq_false, Bool.false_eq_true, Bool.not_true, Bool.not_false, ite_true, ite_false, ↓reduceIte, Nat.reduceSub, Nat.reduceAdd, big, Nat.reduceLeDiff, Nat.zero_le, decide_true, decide_false, eq_self, wp_bd, ap_kW, wp_ok, wp_er, lpQ_nx, lpQ_ct, lpQ_bk, lpQ_rt, x_alt2, kAlt_ok, kAlt_er, kAlt_bad, x_altF, x_callO, ap_co1, ap_co2, isC_ins, x_methK, ap_mk1, ap_mk2, x_kw, ap_kw1, ap_kw2, x_heard, wp_noEr, x_lc, ap_lc, x_app, ap_app1, Nat.reduceLT, Nat.reduceBEq, beq_self_eq_true, dBool, dAdd, dSub, dMul, dMod, dFdiv, dPow, dNeg, dLt, dLe, dGt, dGe, eqG_int, eqG_str, eqG_bl, xor_t, xor_f, dIsN, dNotN, dTru, dIx, dLen, dAbs, dInt, dStr, dMax2, dMin2, dMul8, dRep, dApp, dPart, dSl, dList, asL, cut63D h]
  rfl
theorem at_intsD {ns : List Int} {i : Int} (h0 : 0 ≤ i) (h1 : i < ns.length) : ∃ c, atI (ns.map D.int) i = some (.int c) := by
  obtain ⟨j, rfl⟩ : ∃ j : Nat, i = j := ⟨i.toNat, by omega⟩
  have hj : j < ns.length := by omega
  refine ⟨ns[j], ?_⟩
  unfold atI
  rw [List.length_map, Evl.ixN_nat hj]
  simp [hj]
theorem e_draw {P : O} {R : Store} {n : Nat} {many : Int} (pn : Pn P (n + 1)) (hm : 0 < many) (hm2 : many.natAbs < 2 ^ 250) : ∃ d P', F_draw [.loc 0, .int many] (P :: R) = .ok (.int d) (P' :: R) ∧ Pn P' n ∧ 0 ≤ d ∧ d < many := by
  obtain ⟨cells, spot, great, rfl, s0, s1, g0, c0⟩ := pn
  have lg : 0 < many ∧ many.natAbs.log2 < 9000 := ⟨hm, Nat.lt_of_lt_of_le (PySem.Flt.log2_lt_of (by decide) hm2) (by decide)⟩
  have md : ∀ x : Int, 0 ≤ x % many ∧ x % many < many := fun x => ⟨Int.emod_nonneg _ (by omega), Int.emod_lt_of_pos _ hm⟩
  unfold F_draw
  by_cases hg : 0 < great
  · refine ⟨great % many, penO cells spot (great / many), ?_, ⟨cells, spot, great / many, rfl, s0, by omega, Int.ediv_nonneg g0 (by omega), c0⟩, (md _).1, (md _).2⟩
    refine (x_run (by rfl)).trans ?_
    have e1 : atI [D.lst (cells.map .int), .int spot, .int great] 2 = some (.int great) := rfl
    have e2 : ixN 3 2 = some 2 := rfl
    simp only [ap_f2, ap_cons, ap_cons2, ap_and, ap_or, ap_not, ap_if, ap_andV, ap_andV2, ap_orV, ap_orV2, ap_notV, ap_notV2, ap_ch1, ap_ch2, ap_ch3, ap_ch4, ap_lst, ap_tup, ap_lstM, ap_sl, ap_sl2, ap_ret, ap_drop, ap_set, ap_nx, ap_asg, ap_par, ap_par3, ap_r1, ap_r2, ap_si1, ap_si2, ap_si3, ap_sf1, ap_sf2, ap_for, ap_lcE, x_var, vK_some, x_c, x_f1, x_f2, x_nil, x_cons, x_and, x_or, x_not, x_if, x_andV, x_orV, x_notV, x_chain, x_lst, x_tup, x_lstM, x_sl, x_seq, sqK_nx, sqK_rt, sqK_bk, sqK_ct, x_ret, x_retN, x_drop, x_next, x_brk, x_cnt, x_set, x_asg, x_par, x_par3, x_raise1, x_raise2, x_setI, x_setF, endK_rt, endK_nx, x_for, x_bind, bd_ok, bd_er, bd_bad, bnd_bd, ret_ap, bad_ap, ite_ap, List.map_cons, List.map_nil, List.length_cons, List.length_nil, List.cons_append, List.nil_append, List.replicate, List.getElem?_cons_zero, List.getElem?_cons_succ, List.set_cons_zero, List.set_cons_succ, if_true, if_false, Bool.true_eq_false, Bool.false_eq_true, Bool.not_true, Bool.not_false, ite_true, ite_false, ↓reduceIte, Nat.reduceSub, Nat.reduceAdd, big, Nat.reduceLeDiff, Nat.zero_le, decide_true, decide_false, eq_self, wp_bd, ap_kW, wp_ok, wp_er, lpQ_nx, lpQ_ct, lpQ_bk, lpQ_rt, x_alt2, kAlt_ok, kAlt_er, kAlt_bad, x_altF, x_callO, ap_co1, ap_co2, isC_ins, x_methK, ap_mk1, ap_mk2, x_kw, ap_kw1, ap_kw2, x_heard, wp_noEr, x_lc, ap_lc, x_app, ap_app1, Nat.reduceLT, Nat.reduceBEq, beq_self_eq_true, dBool, dAdd, dSub, dMul, dMod, dFdiv, dPow, dNeg, dLt, dLe, dGt, dGe, eqG_int, eqG_str, eqG_bl, xor_t, xor_f, dIsN, dNotN, dTru, dIx, dLen, dAbs, dInt, dStr, dMax2, dMin2, dMul8, dRep, dApp, penO, asL, e1, hg, decide_true, hm, lg, and_self, e2]
  · have pn' : ∀ gr : Int, 0 ≤ gr → Pn (penO cells (spot + 1) gr) n := fun gr h => ⟨cells, spot + 1, gr, rfl, by omega, by omega, h, c0⟩
    have e1 : ∀ sp gr : Int, atI [D.lst (cells.map .int), .int sp, .int gr] 2 = some (.int gr) := fun _ _ => rfl
    have e2 : ∀ sp gr : Int, atI [D.lst (cells.map .int), .int sp, .int gr] 1 = some (.int sp) := fun _ _ => rfl
    have e0 : ∀ sp gr : Int, atI [D.lst (cells.map .int), .int sp, .int gr] 0 = some (.lst (cells.map .int)) := fun _ _ => rfl
    have i1 : ixN 3 1 = some 1 := rfl
    have i2 : ixN 3 2 = some 2 := rfl
    have e18 : (10 : Int) ^ Int.toNat 18 = 1000000000000000000 := by decide
    have k1 : (Int.natAbs 47407 < 2 ^ 64 ∨ Int.natAbs spot < 2 ^ 64 ∨ (Int.natAbs 47407).log2 + spot.natAbs.log2 < 1000000) = True := by simp
    have k2 : ∀ x : Int, (Int.natAbs 2 < 2 ^ 64 ∨ Int.natAbs x < 2 ^ 64 ∨ (Int.natAbs 2).log2 + x.natAbs.log2 < 1000000) = True := fun x => by simp
    have k3 : (Int.natAbs 63403 < 2 ^ 64 ∨ Int.natAbs spot < 2 ^ 64 ∨ (Int.natAbs 63403).log2 + spot.natAbs.log2 < 1000000) = True := by simp
    have k4 : ∀ x : Int, (Int.natAbs x < 2 ^ 64 ∨ Int.natAbs (2 * spot + 189) < 2 ^ 64 ∨ x.natAbs.log2 + (2 * spot + 189).natAbs.log2 < 1000000) = True := fun x => eq_true (.inr (.inl (by omega)))
    have k5 : (Int.natAbs 66023 < 2 ^ 64 ∨ Int.natAbs spot < 2 ^ 64 ∨ (Int.natAbs 66023).log2 + spot.natAbs.log2 < 1000000) = True := by simp
    have k6 : (Int.natAbs (66023 * spot) < 2 ^ 64 ∨ Int.natAbs spot < 2 ^ 64 ∨ (66023 * spot).natAbs.log2 + spot.natAbs.log2 < 1000000) = True := eq_true (.inr (.inl (by omega)))
    have w1 : ∀ x : Int, (0 ≤ (5 : Int) ∧ (5 : Int) ≤ 1000000 ∧ (x % 2147483587 + 63403 * spot + 1219).natAbs < 2 ^ 64) = True := fun x => eq_true ⟨by decide, by decide, by
      have h1 := Int.emod_nonneg x (show (2147483587 : Int) ≠ 0 by decide)
      have h2 := Int.emod_lt_of_pos x (show (0 : Int) < 2147483587 by decide)
      omega⟩
    have w2 : ∀ x : Int, (0 ≤ (3 : Int) ∧ (3 : Int) ≤ 1000000 ∧ (x % 2147483629 * (2 * spot + 189) + 66023 * spot * spot + 105).natAbs < 2 ^ 64) = True := fun x => eq_true ⟨by decide, by decide, mix_lt (Int.emod_nonneg _ (by decide)) (Int.lt_of_lt_of_le (Int.emod_lt_of_pos _ (by decide)) (by decide)) (by omega) (by omega) (by decide) (by decide) (by decide) (by decide) (by decide) (by decide)⟩
    have w18 : (0 ≤ (18 : Int) ∧ (18 : Int) ≤ 1000000 ∧ (10 : Int).natAbs < 2 ^ 64) = True := eq_true (by decide)
    have p3 : (0 < (2147483587 : Int)) = True := eq_true (by decide)
    have p6 : (0 < (2147483629 : Int)) = True := eq_true (by decide)
    have pA : (0 < (2147483579 : Int)) = True := eq_true (by decide)
    have p32 : (0 < (32 : Int) ∧ (32 : Int).natAbs.log2 < 9000) = True := eq_true (by decide)
    have cell : ∀ c : Int, ∃ d gr, 0 ≤ gr ∧ 0 ≤ d ∧ d < many ∧ bd ((sSeq (fIf (fAnd (f1 dBool (f2 dLt (fVar 2) (f1 dLen (fCons (f2 dIx (fVar 0) (fC (.int 0))) fNil)))) (f1 dBool (f2 dGe (f1 dAbs (fCons (fVar 3) fNil)) (f2 dPow (fC (.int 10)) (fC (.int 18)))))) (sSeq (sAsg (.nm 6) (f2 dAdd (f2 dMul (fC (.int 2)) (f2 dSub (f1 dAbs (fCons (fVar 3) fNil)) (f2 dPow (fC (.int 10)) (fC (.int 18))))) (f1 dInt (fCons (f2 dLt (fVar 3) (fC (.int 0))) fNil)))) (sSeq (sSetI (fVar 0) (fC (.int 2)) (f2 dFdiv (f1 dInt (fCons (fVar 6) fNil)) (fVar 1))) (sRet (f2 dMod (f1 dInt (fCons (fVar 6) fNil)) (fVar 1))))) sNext) (sSeq (sAsg (.nm 4) (f2 dMod (f1 dInt (fCons (f2 dPow (f2 dAdd (f2 dAdd (f2 dMod (f1 dInt (fCons (fVar 3) fNil)) (fC (.int 2147483587))) (f2 dMul (fC (.int 63403)) (fVar 2))) (fC (.int 1219))) (fC (.int 5))) fNil)) (fC (.int 2147483629)))) (sSeq (sAsg (.nm 4) (f2 dMod (f1 dInt (fCons (f2 dPow (f2 dAdd (f2 dAdd (f2 dMul (fVar 4) (f2 dAdd (f2 dMul (fC (.int 2)) (fVar 2)) (fC (.int 189)))) (f2 dMul (f2 dMul (fC (.int 66023)) (fVar 2)) (fVar 2))) (fC (.int 105))) (fC (.int 3))) fNil)) (fC (.int 2147483579)))) (sRet (f2 dMod (f1 dInt (fCons (f2 dFdiv (fVar 4) (fC (.int 32))) fNil)) (fVar 1)))))) [some (.loc 0), some (.int many), some (.int spot), some (.int c), none, none, none] (penO cells (spot + 1) great :: R)) endK = .ok (.int d) (penO cells (spot + 1) gr :: R) := fun c => by
      by_cases hs : spot < cells.length
      · by_cases hc : (1000000000000000000 : Int) ≤ if c < 0 then -c else c
        · refine ⟨(2 * ((if c < 0 then -c else c) - 1000000000000000000) + if c < 0 then 1 else 0) % many, (2 * ((if c < 0 then -c else c) - 1000000000000000000) + if c < 0 then 1 else 0) / many, ?_, (md _).1, (md _).2, ?_⟩
          · have : 0 ≤ (2 * ((if c < 0 then -c else c) - 1000000000000000000) + if c < 0 then 1 else 0) := by
              generalize (if c < 0 then -c else c) = Y at hc ⊢
              split <;> omega
            exact Int.ediv_nonneg this (by omega)
          · simp only [ap_f2, ap_cons, ap_cons2, ap_and, ap_or, ap_not, ap_if, ap_andV, ap_andV2, ap_orV, ap_orV2, ap_notV, ap_notV2, ap_ch1, ap_ch2, ap_ch3, ap_ch4, ap_lst, ap_tup, ap_lstM, ap_sl, ap_sl2, ap_ret, ap_drop, ap_set, ap_nx, ap_asg, ap_par, ap_par3, ap_r1, ap_r2, ap_si1, ap_si2, ap_si3, ap_sf1, ap_sf2, ap_for, ap_lcE, x_var, vK_some, x_c, x_f1, x_f2, x_nil, x_cons, x_and, x_or, x_not, x_if, x_andV, x_orV, x_notV, x_chain, x_lst, x_tup, x_lstM, x_sl, x_seq, sqK_nx, sqK_rt, sqK_bk, sqK_ct, x_ret, x_retN, x_drop, x_next, x_brk, x_cnt, x_set, x_asg, x_par, x_par3, x_raise1, x_raise2, x_setI, x_setF, endK_rt, endK_nx, x_for, x_bind, bd_ok, bd_er, bd_bad, bnd_bd, ret_ap, bad_ap, ite_ap, List.map_cons, List.map_nil, List.length_cons, List.length_nil, List.cons_append, List.nil_append, List.replicate, List.getElem?_cons_zero, List.getElem?_cons_succ, List.set_cons_zero, List.set_cons_succ, if_true, if_false, Bool.true_eq_false, Bool.false_eq_true, Bool.not_true, Bool.not_false, ite_true, ite_false, ↓reduceIte, Nat.reduceSub, Nat.reduceAdd, big, Nat.reduceLeDiff, Nat.zero_le, decide_true, decide_false, eq_self, wp_bd, ap_kW, wp_ok, wp_er, lpQ_nx, lpQ_ct, lpQ_bk, lpQ_rt, x_alt2, kAlt_ok, kAlt_er, kAlt_bad, x_altF, x_callO, ap_co1, ap_co2, isC_ins, x_methK, ap_mk1, ap_mk2, x_kw, ap_kw1, ap_kw2, x_heard, wp_noEr, x_lc, ap_lc, x_app, ap_app1, Nat.reduceLT, Nat.reduceBEq, beq_self_eq_true, dBool, dAdd, dSub, dMul, dMod, dFdiv, dPow, dNeg, dLt, dLe, dGt, dGe, eqG_int, eqG_str, eqG_bl, xor_t, xor_f, dIsN, dNotN, dTru, dIx, dLen, dAbs, dInt, dStr, dMax2, dMin2, dMul8, dRep, dApp, penO, asL, e0, e1, e2, i1, i2, hs, decide_true, List.length_map, w18, e18, hc, k2, hm, lg, and_self, decide_eq_true_eq]
        · refine ⟨((((c % 2147483587 + 63403 * spot + 1219) ^ Int.toNat 5) % 2147483629 * (2 * spot + 189) + 66023 * spot * spot + 105) ^ Int.toNat 3 % 2147483579) / 32 % many, great, g0, (md _).1, (md _).2, ?_⟩
          simp only [ap_f2, ap_cons, ap_cons2, ap_and, ap_or, ap_not, ap_if, ap_andV, ap_andV2, ap_orV, ap_orV2, ap_notV, ap_notV2, ap_ch1, ap_ch2, ap_ch3, ap_ch4, ap_lst, ap_tup, ap_lstM, ap_sl, ap_sl2, ap_ret, ap_drop, ap_set, ap_nx, ap_asg, ap_par, ap_par3, ap_r1, ap_r2, ap_si1, ap_si2, ap_si3, ap_sf1, ap_sf2, ap_for, ap_lcE, x_var, vK_some, x_c, x_f1, x_f2, x_nil, x_cons, x_and, x_or, x_not, x_if, x_andV, x_orV, x_notV, x_chain, x_lst, x_tup, x_lstM, x_sl, x_seq, sqK_nx, sqK_rt, sqK_bk, sqK_ct, x_ret, x_retN, x_drop, x_next, x_brk, x_cnt, x_set, x_asg, x_par, x_par3, x_raise1, x_raise2, x_setI, x_setF, endK_rt, endK_nx, x_for, x_bind, bd_ok, bd_er, bd_bad, bnd_bd, ret_ap, bad_ap, ite_ap, List.map_cons, List.map_nil, List.length_cons, List.length_nil, List.cons_append, List.nil_append, List.replicate, List.getElem?_cons_zero, List.getElem?_cons_succ, List.set_cons_zero, List.set_cons_succ, if_true, if_false, Bool.true_eq_false, Bool.false_eq_true, Bool.not_true, Bool.not_false, ite_true, ite_false, ↓reduceIte, Nat.reduceSub, Nat.reduceAdd, big, Nat.reduceLeDiff, Nat.zero_le, decide_true, decide_false, eq_self, wp_bd, ap_kW, wp_ok, wp_er, lpQ_nx, lpQ_ct, lpQ_bk, lpQ_rt, x_alt2, kAlt_ok, kAlt_er, kAlt_bad, x_altF, x_callO, ap_co1, ap_co2, isC_ins, x_methK, ap_mk1, ap_mk2, x_kw, ap_kw1, ap_kw2, x_heard, wp_noEr, x_lc, ap_lc, x_app, ap_app1, Nat.reduceLT, Nat.reduceBEq, beq_self_eq_true, dBool, dAdd, dSub, dMul, dMod, dFdiv, dPow, dNeg, dLt, dLe, dGt, dGe, eqG_int, eqG_str, eqG_bl, xor_t, xor_f, dIsN, dNotN, dTru, dIx, dLen, dAbs, dInt, dStr, dMax2, dMin2, dMul8, dRep, dApp, penO, asL, e0, e1, e2, i1, i2, hs, decide_true, decide_false, List.length_map, w18, e18, hc, k1, k2, k3, k4, k5, k6, w1, w2, p3, p6, pA, p32, hm]
      · refine ⟨((((c % 2147483587 + 63403 * spot + 1219) ^ Int.toNat 5) % 2147483629 * (2 * spot + 189) + 66023 * spot * spot + 105) ^ Int.toNat 3 % 2147483579) / 32 % many, great, g0, (md _).1, (md _).2, ?_⟩
        simp only [ap_f2, ap_cons, ap_cons2, ap_and, ap_or, ap_not, ap_if, ap_andV, ap_andV2, ap_orV, ap_orV2, ap_notV, ap_notV2, ap_ch1, ap_ch2, ap_ch3, ap_ch4, ap_lst, ap_tup, ap_lstM, ap_sl, ap_sl2, ap_ret, ap_drop, ap_set, ap_nx, ap_asg, ap_par, ap_par3, ap_r1, ap_r2, ap_si1, ap_si2, ap_si3, ap_sf1, ap_sf2, ap_for, ap_lcE, x_var, vK_some, x_c, x_f1, x_f2, x_nil, x_cons, x_and, x_or, x_not, x_if, x_andV, x_orV, x_notV, x_chain, x_lst, x_tup, x_lstM, x_sl, x_seq, sqK_nx, sqK_rt, sqK_bk, sqK_ct, x_ret, x_retN, x_drop, x_next, x_brk, x_cnt, x_set, x_asg, x_par, x_par3, x_raise1, x_raise2, x_setI, x_setF, endK_rt, endK_nx, x_for, x_bind, bd_ok, bd_er, bd_bad, bnd_bd, ret_ap, bad_ap, ite_ap, List.map_cons, List.map_nil, List.length_cons, List.length_nil, List.cons_append, List.nil_append, List.replicate, List.getElem?_cons_zero, List.getElem?_cons_succ, List.set_cons_zero, List.set_cons_succ, if_true, if_false, Bool.true_eq_false, Bool.false_eq_true, Bool.not_true, Bool.not_false, ite_true, ite_false, ↓reduceIte, Nat.reduceSub, Nat.reduceAdd, big, Nat.reduceLeDiff, Nat.zero_le, decide_true, decide_false, eq_self, wp_bd, ap_kW, wp_ok, wp_er, lpQ_nx, lpQ_ct, lpQ_bk, lpQ_rt, x_alt2, kAlt_ok, kAlt_er, kAlt_bad, x_altF, x_callO, ap_co1, ap_co2, isC_ins, x_methK, ap_mk1, ap_mk2, x_kw, ap_kw1, ap_kw2, x_heard, wp_noEr, x_lc, ap_lc, x_app, ap_app1, Nat.reduceLT, Nat.reduceBEq, beq_self_eq_true, dBool, dAdd, dSub, dMul, dMod, dFdiv, dPow, dNeg, dLt, dLe, dGt, dGe, eqG_int, eqG_str, eqG_bl, xor_t, xor_f, dIsN, dNotN, dTru, dIx, dLen, dAbs, dInt, dStr, dMax2, dMin2, dMul8, dRep, dApp, penO, asL, e0, e1, e2, i1, i2, hs, decide_true, decide_false, List.length_map, k1, k2, k3, k4, k5, k6, w1, w2, p3, p6, pA, p32, hm]
    cases cells with
    | nil =>
      obtain ⟨d, gr, h1, h2, h3, h4⟩ := cell (47407 * spot + 4387)
      refine ⟨d, _, ?_, pn' gr h1, h2, h3⟩
      refine (x_run (by rfl)).trans ?_
      rw [← h4]
      simp only [List.map_nil] at e0 e1 e2
      simp only [ap_f2, ap_cons, ap_cons2, ap_and, ap_or, ap_not, ap_if, ap_andV, ap_andV2, ap_orV, ap_orV2, ap_notV, ap_notV2, ap_ch1, ap_ch2, ap_ch3, ap_ch4, ap_lst, ap_tup, ap_lstM, ap_sl, ap_sl2, ap_ret, ap_drop, ap_set, ap_nx, ap_asg, ap_par, ap_par3, ap_r1, ap_r2, ap_si1, ap_si2, ap_si3, ap_sf1, ap_sf2, ap_for, ap_lcE, x_var, vK_some, x_c, x_f1, x_f2, x_nil, x_cons, x_and, x_or, x_not, x_if, x_andV, x_orV, x_notV, x_chain, x_lst, x_tup, x_lstM, x_sl, x_seq, sqK_nx, sqK_rt, sqK_bk, sqK_ct, x_ret, x_retN, x_drop, x_next, x_brk, x_cnt, x_set, x_asg, x_par, x_par3, x_raise1, x_raise2, x_setI, x_setF, endK_rt, endK_nx, x_for, x_bind, bd_ok, bd_er, bd_bad, bnd_bd, ret_ap, bad_ap, ite_ap, List.map_cons, List.map_nil, List.length_cons, List.length_nil, List.cons_append, List.nil_append, List.replicate, List.getElem?_cons_zero, List.getElem?_cons_succ, List.set_cons_zero, List.set_cons_succ, if_true, if_false, Bool.true_eq_false, Bool.false_eq_true, Bool.not_true, Bool.not_false, ite_true, ite_false, ↓reduceIte, Nat.reduceSub, Nat.reduceAdd, big, Nat.reduceLeDiff, Nat.zero_le, decide_true, decide_false, eq_self, wp_bd, ap_kW, wp_ok, wp_er, lpQ_nx, lpQ_ct, lpQ_bk, lpQ_rt, x_alt2, kAlt_ok, kAlt_er, kAlt_bad, x_altF, x_callO, ap_co1, ap_co2, isC_ins, x_methK, ap_mk1, ap_mk2, x_kw, ap_kw1, ap_kw2, x_heard, wp_noEr, x_lc, ap_lc, x_app, ap_app1, Nat.reduceLT, Nat.reduceBEq, beq_self_eq_true, dBool, dAdd, dSub, dMul, dMod, dFdiv, dPow, dNeg, dLt, dLe, dGt, dGe, eqG_int, eqG_str, eqG_bl, xor_t, xor_f, dIsN, dNotN, dTru, dIx, dLen, dAbs, dInt, dStr, dMax2, dMin2, dMul8, dRep, dApp, penO, asL, e0, e1, e2, i1, i2, hg, decide_false, k1, ne_nil0]
    | cons c0' cr =>
      have hl : (0 : Int) < ((cr.length + 1 : Nat) : Int) := by omega
      obtain ⟨c, hc⟩ := at_intsD (ns := c0' :: cr) (i := spot % ((cr.length + 1 : Nat) : Int)) (Int.emod_nonneg _ (by omega)) (Int.emod_lt_of_pos _ hl)
      obtain ⟨d, gr, h1, h2, h3, h4⟩ := cell c
      refine ⟨d, _, ?_, pn' gr h1, h2, h3⟩
      refine (x_run (by rfl)).trans ?_
      rw [← h4]
      simp only [List.map_cons] at hc e0 e1 e2
      simp only [ap_f2, ap_cons, ap_cons2, ap_and, ap_or, ap_not, ap_if, ap_andV, ap_andV2, ap_orV, ap_orV2, ap_notV, ap_notV2, ap_ch1, ap_ch2, ap_ch3, ap_ch4, ap_lst, ap_tup, ap_lstM, ap_sl, ap_sl2, ap_ret, ap_drop, ap_set, ap_nx, ap_asg, ap_par, ap_par3, ap_r1, ap_r2, ap_si1, ap_si2, ap_si3, ap_sf1, ap_sf2, ap_for, ap_lcE, x_var, vK_some, x_c, x_f1, x_f2, x_nil, x_cons, x_and, x_or, x_not, x_if, x_andV, x_orV, x_notV, x_chain, x_lst, x_tup, x_lstM, x_sl, x_seq, sqK_nx, sqK_rt, sqK_bk, sqK_ct, x_ret, x_retN, x_drop, x_next, x_brk, x_cnt, x_set, x_asg, x_par, x_par3, x_raise1, x_raise2, x_setI, x_setF, endK_rt, endK_nx, x_for, x_bind, bd_ok, bd_er, bd_bad, bnd_bd, ret_ap, bad_ap, ite_ap, List.map_cons, List.map_nil, List.length_cons, List.length_nil, List.cons_append, List.nil_append, List.replicate, List.getElem?_cons_zero, List.getElem?_cons_succ, List.set_cons_zero, List.set_cons_succ, if_true, if_false, Bool.true_eq_false, Bool.false_eq_true, Bool.not_true, Bool.not_false, ite_true, ite_false, ↓reduceIte, Nat.reduceSub, Nat.reduceAdd, big, Nat.reduceLeDiff, Nat.zero_le, decide_true, decide_false, eq_self, wp_bd, ap_kW, wp_ok, wp_er, lpQ_nx, lpQ_ct, lpQ_bk, lpQ_rt, x_alt2, kAlt_ok, kAlt_er, kAlt_bad, x_altF, x_callO, ap_co1, ap_co2, isC_ins, x_methK, ap_mk1, ap_mk2, x_kw, ap_kw1, ap_kw2, x_heard, wp_noEr, x_lc, ap_lc, x_app, ap_app1, Nat.reduceLT, Nat.reduceBEq, beq_self_eq_true, dBool, dAdd, dSub, dMul, dMod, dFdiv, dPow, dNeg, dLt, dLe, dGt, dGe, eqG_int, eqG_str, eqG_bl, xor_t, xor_f, dIsN, dNotN, dTru, dIx, dLen, dAbs, dInt, dStr, dMax2, dMin2, dMul8, dRep, dApp, penO, asL, e0, e1, e2, i1, i2, hg, decide_false, k1, ne_nil1, List.length_map, hl, hc]
theorem at_memD {xs : List D} {i : Int} (h0 : 0 ≤ i) (h1 : i < xs.length) : ∃ v, atI xs i = some v ∧ v ∈ xs := by
  obtain ⟨j, rfl⟩ : ∃ j : Nat, i = j := ⟨i.toNat, by omega⟩
  have hj : j < xs.length := by omega
  refine ⟨xs[j], ?_, List.getElem_mem hj⟩
  unfold atI
  rw [Evl.ixN_nat hj]
  simp [hj]
theorem e_pick {P : O} {R : Store} {n : Nat} {xs : List D} (pn : Pn P (n + 1)) (h0 : 0 < xs.length) (h1 : xs.length ≤ 1000) : ∃ v P', F_pick [.loc 0, .lst xs] (P :: R) = .ok v (P' :: R) ∧ Pn P' n ∧ v ∈ xs := by
  obtain ⟨d, P', e, pn', d0, d1⟩ := e_draw (R := R) (many := xs.length) pn (by omega) (by omega)
  obtain ⟨v, hv, hm⟩ := at_memD d0 d1
  refine ⟨v, P', ?_, pn', hm⟩
  unfold F_pick
  refine (x_run (by rfl)).trans ?_
  simp only [ap_f2, ap_cons, ap_cons2, ap_and, ap_or, ap_not, ap_if, ap_andV, ap_andV2, ap_orV, ap_orV2, ap_notV, ap_notV2, ap_ch1, ap_ch2, ap_ch3, ap_ch4, ap_lst, ap_tup, ap_lstM, ap_sl, ap_sl2, ap_ret, ap_drop, ap_set, ap_nx, ap_asg, ap_par, ap_par3, ap_r1, ap_r2, ap_si1, ap_si2, ap_si3, ap_sf1, ap_sf2, ap_for, ap_lcE, x_var, vK_some, x_c, x_f1, x_f2, x_nil, x_cons, x_and, x_or, x_not, x_if, x_andV, x_orV, x_notV, x_chain, x_lst, x_tup, x_lstM, x_sl, x_seq, sqK_nx, sqK_rt, sqK_bk, sqK_ct, x_ret, x_retN, x_drop, x_next, x_brk, x_cnt, x_set, x_asg, x_par, x_par3, x_raise1, x_raise2, x_setI, x_setF, endK_rt, endK_nx, x_for, x_bind, bd_ok, bd_er, bd_bad, bnd_bd, ret_ap, bad_ap, ite_ap, List.map_cons, List.map_nil, List.length_cons, List.length_nil, List.cons_append, List.nil_append, List.replicate, List.getElem?_cons_zero, List.getElem?_cons_succ, List.set_cons_zero, List.set_cons_succ, if_true, if_false, Bool.true_eq_false, Bool.false_eq_true, Bool.not_true, Bool.not_false, ite_true, ite_false, ↓reduceIte, Nat.reduceSub, Nat.reduceAdd, big, Nat.reduceLeDiff, Nat.zero_le, decide_true, decide_false, eq_self, wp_bd, ap_kW, wp_ok, wp_er, lpQ_nx, lpQ_ct, lpQ_bk, lpQ_rt, x_alt2, kAlt_ok, kAlt_er, kAlt_bad, x_altF, x_callO, ap_co1, ap_co2, isC_ins, x_methK, ap_mk1, ap_mk2, x_kw, ap_kw1, ap_kw2, x_heard, wp_noEr, x_lc, ap_lc, x_app, ap_app1, Nat.reduceLT, Nat.reduceBEq, beq_self_eq_true, dBool, dAdd, dSub, dMul, dMod, dFdiv, dPow, dNeg, dLt, dLe, dGt, dGe, eqG_int, eqG_str, eqG_bl, xor_t, xor_f, dIsN, dNotN, dTru, dIx, dLen, dAbs, dInt, dStr, dMax2, dMin2, dMul8, dRep, dApp, asL, e, hv]
end Ol

namespace Ol
open PySem L2 LamX
section
variable {P : O} {R : Store} {m : Nat} {Q : D → Store → Prop} {X : XQ}
theorem w_draw {many : Int} (pn : Pn P (m + 1)) (hm : 0 < many) (hm2 : many.natAbs < 2 ^ 250) (h : ∀ d P', Pn P' m → 0 ≤ d → d < many → Q (.int d) (P' :: R)) : Wp (F_draw [.loc 0, .int many] (P :: R)) Q X := by
  obtain ⟨d, P', e, pn', h0, h1⟩ := e_draw (R := R) pn hm hm2
  rw [e]
  exact h d P' pn' h0 h1
theorem w_pick {xs : List D} (pn : Pn P (m + 1)) (h0 : 0 < xs.length) (h1 : xs.length ≤ 1000) (h : ∀ v P', Pn P' m → v ∈ xs → Q v (P' :: R)) : Wp (F_pick [.loc 0, .lst xs] (P :: R)) Q X := by
  obtain ⟨v, P', e, pn', hv⟩ := e_pick (R := R) pn h0 h1
  rw [e]
  exact h v P' pn' hv
end

section
variable {S : Store}
theorem lc_cnt {p : Pat} {t : Env8 → M Bool} {env : Env8} {k : Int → Bool} {L : List Int} (h : ∀ r ∈ L, ∃ e, bindM p (.int r) env S = .ok e S ∧ t e S = .ok (k r) S) : loopC p t (fC (.int 1)) env (L.map .int) S = .ok ((L.filter k).map fun _ => .int 1) S := by
  have := lc_filter8 (S := S) (p := p) (t := t) (fe := fC (.int 1)) (env := env) (g := fun _ => .int 1) (k := fun d => match d with | .int r => k r | _ => false) (ds := L.map .int) fun d hd => by
    obtain ⟨r, hr, rfl⟩ := List.mem_map.mp hd
    obtain ⟨e, h1, h2⟩ := h r hr
    exact ⟨e, h1, h2, fun _ => rfl⟩
  rw [this, List.filter_map, List.map_map]
  rfl
theorem bind_tp2 {i j : Nat} {a b : D} {env : Env8} : bindM (.tp [.nm i, .nm j]) (.tup [a, b]) env S = .ok ((env.set i (some a)).set j (some b)) S := by
  unfold bindM
  simp only [bindP, bindPs, asSq, asT, asL]
theorem bind_tp3 {i j k : Nat} {a b c : D} {env : Env8} : bindM (.tp [.nm i, .nm j, .nm k]) (.tup [a, b, c]) env S = .ok (((env.set i (some a)).set j (some b)).set k (some c)) S := by
  unfold bindM
  simp only [bindP, bindPs, asSq, asT, asL]
structure SOk (n g : Int) (L : List Int) : Prop where
  a : 1 ≤ n ∧ n ≤ 100
  b : -10 ≤ g ∧ g ≤ 10
  l : L.length ≤ 6
  r : Rs n L
  s : Srt L
def stF (n g : Int) (L : List Int) : List (Str × D) := [("length", .int n), ("base", .int g), ("rises", .tup (L.map .int)), ("step", .int L.length)]
def st (n g : Int) (L : List Int) : D := .ins 39 (stF n g L)
def pt (g : Int) (L : List Int) : D := .tup [.int g, .lst (L.map .int)]
variable {n g m n' g' c : Int} {L L' : List Int}
theorem SOk.hn (ok : SOk n g L) : (n.natAbs.log2 < 9000) = True := eq_true (Nat.lt_of_lt_of_le (PySem.Flt.log2_lt_of (by decide) (show n.natAbs < 2 ^ 10 by have := ok.a; omega)) (by decide))
theorem SOk.hn0 (ok : SOk n g L) : (0 < n) = True := eq_true (by have := ok.a; omega)
theorem SOk.p (ok : SOk n g L) : 0 < n := by have := ok.a; omega
theorem SOk.hl (ok : SOk n g L) : (L.length ≤ 1000000) = True := eq_true (Nat.le_trans ok.l (by decide))
theorem SOk.k64 (ok : SOk n g L) : ((L.length : Int).natAbs < 2 ^ 64) = True := eq_true (by have := ok.l; omega)
theorem lim_st (k : Nat) : (st n g L).lim k = true := by simp [st, stF, D.limF, D.lim, limL_ints]
theorem fl_len : dFld [39] "length" (st n g L) S = .ok (.int n) S := by simp only [st, stF, ap_f2, ap_cons, ap_cons2, ap_and, ap_or, ap_not, ap_if, ap_andV, ap_andV2, ap_orV, ap_orV2, ap_notV, ap_notV2, ap_ch1, ap_ch2, ap_ch3, ap_ch4, ap_lst, ap_tup, ap_lstM, ap_sl, ap_sl2, ap_ret, ap_drop, ap_set, ap_nx, ap_asg, ap_par, ap_par3, ap_r1, ap_r2, ap_si1, ap_si2, ap_si3, ap_sf1, ap_sf2, ap_for, ap_lcE, x_var, vK_some, x_c, x_f1, x_f2, x_nil, x_cons, x_and, x_or, x_not, x_if, x_andV, x_orV, x_notV, x_chain, x_lst, x_tup, x_lstM, x_sl, x_seq, sqK_nx, sqK_rt, sqK_bk, sqK_ct, x_ret, x_retN, x_drop, x_next, x_brk, x_cnt, x_set, x_asg, x_par, x_par3, x_raise1, x_raise2, x_setI, x_setF, endK_rt, endK_nx, x_for, x_bind, bd_ok, bd_er, bd_bad, bnd_bd, ret_ap, bad_ap, ite_ap, List.map_cons, List.map_nil, List.length_cons, List.length_nil, List.cons_append, List.nil_append, List.replicate, List.getElem?_cons_zero, List.getElem?_cons_succ, List.set_cons_zero, List.set_cons_succ, if_true, if_false, Bool.true_eq_false, Bool.false_eq_true, Bool.not_true, Bool.not_false, ite_true, ite_false, ↓reduceIte, Nat.reduceSub, Nat.reduceAdd, big, Nat.reduceLeDiff, Nat.zero_le, decide_true, decide_false, eq_self, wp_bd, ap_kW, wp_ok, wp_er, lpQ_nx, lpQ_ct, lpQ_bk, lpQ_rt, x_alt2, kAlt_ok, kAlt_er, kAlt_bad, x_altF, x_callO, ap_co1, ap_co2, isC_ins, x_methK, ap_mk1, ap_mk2, x_kw, ap_kw1, ap_kw2, x_heard, wp_noEr, x_lc, ap_lc, x_app, ap_app1, Nat.reduceLT, Nat.reduceBEq, beq_self_eq_true, app_get, app_set, putFD, lookF, lookC, str_inj, String.reduceEq, List.mem_cons, List.not_mem_nil, or_false, or_true, true_or, false_or, Nat.reduceEqDiff, and_self, true_and, and_true, Nat.reduceLT, dFld, dCon, asI, D.limF, D.lim, D.limL, Bool.and_true, Bool.true_and, fMeth, fMeth0, methOf, reduceCtorEq, Nat.zero_ne_one, Nat.one_ne_zero]
theorem fl_base : dFld [39] "base" (st n g L) S = .ok (.int g) S := by simp only [st, stF, ap_f2, ap_cons, ap_cons2, ap_and, ap_or, ap_not, ap_if, ap_andV, ap_andV2, ap_orV, ap_orV2, ap_notV, ap_notV2, ap_ch1, ap_ch2, ap_ch3, ap_ch4, ap_lst, ap_tup, ap_lstM, ap_sl, ap_sl2, ap_ret, ap_drop, ap_set, ap_nx, ap_asg, ap_par, ap_par3, ap_r1, ap_r2, ap_si1, ap_si2, ap_si3, ap_sf1, ap_sf2, ap_for, ap_lcE, x_var, vK_some, x_c, x_f1, x_f2, x_nil, x_cons, x_and, x_or, x_not, x_if, x_andV, x_orV, x_notV, x_chain, x_lst, x_tup, x_lstM, x_sl, x_seq, sqK_nx, sqK_rt, sqK_bk, sqK_ct, x_ret, x_retN, x_drop, x_next, x_brk, x_cnt, x_set, x_asg, x_par, x_par3, x_raise1, x_raise2, x_setI, x_setF, endK_rt, endK_nx, x_for, x_bind, bd_ok, bd_er, bd_bad, bnd_bd, ret_ap, bad_ap, ite_ap, List.map_cons, List.map_nil, List.length_cons, List.length_nil, List.cons_append, List.nil_append, List.replicate, List.getElem?_cons_zero, List.getElem?_cons_succ, List.set_cons_zero, List.set_cons_succ, if_true, if_false, Bool.true_eq_false, Bool.false_eq_true, Bool.not_true, Bool.not_false, ite_true, ite_false, ↓reduceIte, Nat.reduceSub, Nat.reduceAdd, big, Nat.reduceLeDiff, Nat.zero_le, decide_true, decide_false, eq_self, wp_bd, ap_kW, wp_ok, wp_er, lpQ_nx, lpQ_ct, lpQ_bk, lpQ_rt, x_alt2, kAlt_ok, kAlt_er, kAlt_bad, x_altF, x_callO, ap_co1, ap_co2, isC_ins, x_methK, ap_mk1, ap_mk2, x_kw, ap_kw1, ap_kw2, x_heard, wp_noEr, x_lc, ap_lc, x_app, ap_app1, Nat.reduceLT, Nat.reduceBEq, beq_self_eq_true, app_get, app_set, putFD, lookF, lookC, str_inj, String.reduceEq, List.mem_cons, List.not_mem_nil, or_false, or_true, true_or, false_or, Nat.reduceEqDiff, and_self, true_and, and_true, Nat.reduceLT, dFld, dCon, asI, D.limF, D.lim, D.limL, Bool.and_true, Bool.true_and, fMeth, fMeth0, methOf, reduceCtorEq, Nat.zero_ne_one, Nat.one_ne_zero]
theorem fl_rises : dFld [39] "rises" (st n g L) S = .ok (.tup (L.map .int)) S := by simp only [st, stF, ap_f2, ap_cons, ap_cons2, ap_and, ap_or, ap_not, ap_if, ap_andV, ap_andV2, ap_orV, ap_orV2, ap_notV, ap_notV2, ap_ch1, ap_ch2, ap_ch3, ap_ch4, ap_lst, ap_tup, ap_lstM, ap_sl, ap_sl2, ap_ret, ap_drop, ap_set, ap_nx, ap_asg, ap_par, ap_par3, ap_r1, ap_r2, ap_si1, ap_si2, ap_si3, ap_sf1, ap_sf2, ap_for, ap_lcE, x_var, vK_some, x_c, x_f1, x_f2, x_nil, x_cons, x_and, x_or, x_not, x_if, x_andV, x_orV, x_notV, x_chain, x_lst, x_tup, x_lstM, x_sl, x_seq, sqK_nx, sqK_rt, sqK_bk, sqK_ct, x_ret, x_retN, x_drop, x_next, x_brk, x_cnt, x_set, x_asg, x_par, x_par3, x_raise1, x_raise2, x_setI, x_setF, endK_rt, endK_nx, x_for, x_bind, bd_ok, bd_er, bd_bad, bnd_bd, ret_ap, bad_ap, ite_ap, List.map_cons, List.map_nil, List.length_cons, List.length_nil, List.cons_append, List.nil_append, List.replicate, List.getElem?_cons_zero, List.getElem?_cons_succ, List.set_cons_zero, List.set_cons_succ, if_true, if_false, Bool.true_eq_false, Bool.false_eq_true, Bool.not_true, Bool.not_false, ite_true, ite_false, ↓reduceIte, Nat.reduceSub, Nat.reduceAdd, big, Nat.reduceLeDiff, Nat.zero_le, decide_true, decide_false, eq_self, wp_bd, ap_kW, wp_ok, wp_er, lpQ_nx, lpQ_ct, lpQ_bk, lpQ_rt, x_alt2, kAlt_ok, kAlt_er, kAlt_bad, x_altF, x_callO, ap_co1, ap_co2, isC_ins, x_methK, ap_mk1, ap_mk2, x_kw, ap_kw1, ap_kw2, x_heard, wp_noEr, x_lc, ap_lc, x_app, ap_app1, Nat.reduceLT, Nat.reduceBEq, beq_self_eq_true, app_get, app_set, putFD, lookF, lookC, str_inj, String.reduceEq, List.mem_cons, List.not_mem_nil, or_false, or_true, true_or, false_or, Nat.reduceEqDiff, and_self, true_and, and_true, Nat.reduceLT, dFld, dCon, asI, D.limF, D.lim, D.limL, Bool.and_true, Bool.true_and, fMeth, fMeth0, methOf, reduceCtorEq, Nat.zero_ne_one, Nat.one_ne_zero]
theorem fl_step : dFld [39] "step" (st n g L) S = .ok (.int L.length) S := by simp only [st, stF, ap_f2, ap_cons, ap_cons2, ap_and, ap_or, ap_not, ap_if, ap_andV, ap_andV2, ap_orV, ap_orV2, ap_notV, ap_notV2, ap_ch1, ap_ch2, ap_ch3, ap_ch4, ap_lst, ap_tup, ap_lstM, ap_sl, ap_sl2, ap_ret, ap_drop, ap_set, ap_nx, ap_asg, ap_par, ap_par3, ap_r1, ap_r2, ap_si1, ap_si2, ap_si3, ap_sf1, ap_sf2, ap_for, ap_lcE, x_var, vK_some, x_c, x_f1, x_f2, x_nil, x_cons, x_and, x_or, x_not, x_if, x_andV, x_orV, x_notV, x_chain, x_lst, x_tup, x_lstM, x_sl, x_seq, sqK_nx, sqK_rt, sqK_bk, sqK_ct, x_ret, x_retN, x_drop, x_next, x_brk, x_cnt, x_set, x_asg, x_par, x_par3, x_raise1, x_raise2, x_setI, x_setF, endK_rt, endK_nx, x_for, x_bind, bd_ok, bd_er, bd_bad, bnd_bd, ret_ap, bad_ap, ite_ap, List.map_cons, List.map_nil, List.length_cons, List.length_nil, List.cons_append, List.nil_append, List.replicate, List.getElem?_cons_zero, List.getElem?_cons_succ, List.set_cons_zero, List.set_cons_succ, if_true, if_false, Bool.true_eq_false, Bool.false_eq_true, Bool.not_true, Bool.not_false, ite_true, ite_false, ↓reduceIte, Nat.reduceSub, Nat.reduceAdd, big, Nat.reduceLeDiff, Nat.zero_le, decide_true, decide_false, eq_self, wp_bd, ap_kW, wp_ok, wp_er, lpQ_nx, lpQ_ct, lpQ_bk, lpQ_rt, x_alt2, kAlt_ok, kAlt_er, kAlt_bad, x_altF, x_callO, ap_co1, ap_co2, isC_ins, x_methK, ap_mk1, ap_mk2, x_kw, ap_kw1, ap_kw2, x_heard, wp_noEr, x_lc, ap_lc, x_app, ap_app1, Nat.reduceLT, Nat.reduceBEq, beq_self_eq_true, app_get, app_set, putFD, lookF, lookC, str_inj, String.reduceEq, List.mem_cons, List.not_mem_nil, or_false, or_true, true_or, false_or, Nat.reduceEqDiff, and_self, true_and, and_true, Nat.reduceLT, dFld, dCon, asI, D.limF, D.lim, D.limL, Bool.and_true, Bool.true_and, fMeth, fMeth0, methOf, reduceCtorEq, Nat.zero_ne_one, Nat.one_ne_zero]
theorem e_mk (k : Int) (hk : k = L.length) (hS : S.all (O.lim S.length) = true) : mkIns 39 F_Stair_init [.int n, .int g, .tup (L.map .int), .int k] S = .ok (st n g L) S := by
  subst hk
  refine mk_ok ?_ (by simp [stF, D.limF, D.lim, limL_ints]) hS
  unfold F_Stair_init
  refine (x_run (by rfl)).trans ?_
  simp only [ap_f2, ap_cons, ap_cons2, ap_and, ap_or, ap_not, ap_if, ap_andV, ap_andV2, ap_orV, ap_orV2, ap_notV, ap_notV2, ap_ch1, ap_ch2, ap_ch3, ap_ch4, ap_lst, ap_tup, ap_lstM, ap_sl, ap_sl2, ap_ret, ap_drop, ap_set, ap_nx, ap_asg, ap_par, ap_par3, ap_r1, ap_r2, ap_si1, ap_si2, ap_si3, ap_sf1, ap_sf2, ap_for, ap_lcE, x_var, vK_some, x_c, x_f1, x_f2, x_nil, x_cons, x_and, x_or, x_not, x_if, x_andV, x_orV, x_notV, x_chain, x_lst, x_tup, x_lstM, x_sl, x_seq, sqK_nx, sqK_rt, sqK_bk, sqK_ct, x_ret, x_retN, x_drop, x_next, x_brk, x_cnt, x_set, x_asg, x_par, x_par3, x_raise1, x_raise2, x_setI, x_setF, endK_rt, endK_nx, x_for, x_bind, bd_ok, bd_er, bd_bad, bnd_bd, ret_ap, bad_ap, ite_ap, List.map_cons, List.map_nil, List.length_cons, List.length_nil, List.cons_append, List.nil_append, List.replicate, List.getElem?_cons_zero, List.getElem?_cons_succ, List.set_cons_zero, List.set_cons_succ, if_true, if_false, Bool.true_eq_false, Bool.false_eq_true, Bool.not_true, Bool.not_false, ite_true, ite_false, ↓reduceIte, Nat.reduceSub, Nat.reduceAdd, big, Nat.reduceLeDiff, Nat.zero_le, decide_true, decide_false, eq_self, wp_bd, ap_kW, wp_ok, wp_er, lpQ_nx, lpQ_ct, lpQ_bk, lpQ_rt, x_alt2, kAlt_ok, kAlt_er, kAlt_bad, x_altF, x_callO, ap_co1, ap_co2, isC_ins, x_methK, ap_mk1, ap_mk2, x_kw, ap_kw1, ap_kw2, x_heard, wp_noEr, x_lc, ap_lc, x_app, ap_app1, Nat.reduceLT, Nat.reduceBEq, beq_self_eq_true, dBool, dAdd, dSub, dMul, dMod, dFdiv, dPow, dNeg, dLt, dLe, dGt, dGe, eqG_int, eqG_str, eqG_bl, xor_t, xor_f, dIsN, dNotN, dTru, dIx, dLen, dAbs, dInt, dStr, dMax2, dMin2, dMul8, dRep, dApp, app_get, app_set, putFD, lookF, lookC, str_inj, String.reduceEq, List.mem_cons, List.not_mem_nil, or_false, or_true, true_or, false_or, Nat.reduceEqDiff, and_self, true_and, and_true, Nat.reduceLT, dFld, dCon, asI, D.limF, D.lim, D.limL, Bool.and_true, Bool.true_and, fMeth, fMeth0, methOf, reduceCtorEq, Nat.zero_ne_one, Nat.one_ne_zero, stF]
theorem at0 {a b : D} : atI [a, b] 0 = some a := rfl
theorem at1 {a b : D} : atI [a, b] 1 = some b := rfl
theorem e_made (hS : S.all (O.lim S.length) = true) : F_made [pt g L, .int n] S = .ok (st n g L) S := by
  unfold F_made
  refine (x_run (by rfl)).trans ?_
  have h1 := e_mk (n := n) (g := g) (L := L) L.length rfl hS
  simp only [ap_f2, ap_cons, ap_cons2, ap_and, ap_or, ap_not, ap_if, ap_andV, ap_andV2, ap_orV, ap_orV2, ap_notV, ap_notV2, ap_ch1, ap_ch2, ap_ch3, ap_ch4, ap_lst, ap_tup, ap_lstM, ap_sl, ap_sl2, ap_ret, ap_drop, ap_set, ap_nx, ap_asg, ap_par, ap_par3, ap_r1, ap_r2, ap_si1, ap_si2, ap_si3, ap_sf1, ap_sf2, ap_for, ap_lcE, x_var, vK_some, x_c, x_f1, x_f2, x_nil, x_cons, x_and, x_or, x_not, x_if, x_andV, x_orV, x_notV, x_chain, x_lst, x_tup, x_lstM, x_sl, x_seq, sqK_nx, sqK_rt, sqK_bk, sqK_ct, x_ret, x_retN, x_drop, x_next, x_brk, x_cnt, x_set, x_asg, x_par, x_par3, x_raise1, x_raise2, x_setI, x_setF, endK_rt, endK_nx, x_for, x_bind, bd_ok, bd_er, bd_bad, bnd_bd, ret_ap, bad_ap, ite_ap, List.map_cons, List.map_nil, List.length_cons, List.length_nil, List.cons_append, List.nil_append, List.replicate, List.getElem?_cons_zero, List.getElem?_cons_succ, List.set_cons_zero, List.set_cons_succ, if_true, if_false, Bool.true_eq_false, Bool.false_eq_true, Bool.not_true, Bool.not_false, ite_true, ite_false, ↓reduceIte, Nat.reduceSub, Nat.reduceAdd, big, Nat.reduceLeDiff, Nat.zero_le, decide_true, decide_false, eq_self, wp_bd, ap_kW, wp_ok, wp_er, lpQ_nx, lpQ_ct, lpQ_bk, lpQ_rt, x_alt2, kAlt_ok, kAlt_er, kAlt_bad, x_altF, x_callO, ap_co1, ap_co2, isC_ins, x_methK, ap_mk1, ap_mk2, x_kw, ap_kw1, ap_kw2, x_heard, wp_noEr, x_lc, ap_lc, x_app, ap_app1, Nat.reduceLT, Nat.reduceBEq, beq_self_eq_true, dBool, dAdd, dSub, dMul, dMod, dFdiv, dPow, dNeg, dLt, dLe, dGt, dGe, eqG_int, eqG_str, eqG_bl, xor_t, xor_f, dIsN, dNotN, dTru, dIx, dLen, dAbs, dInt, dStr, dMax2, dMin2, dMul8, dRep, dApp, pt, asT, asL, at0, at1, dTuple, List.length_map, h1]
theorem e_call (ok : SOk n g L) (hm : 0 ≤ m) : F_Stair_call [st n g L, .int m] S = .ok (.int (stv g n L m)) S := by
  have h0 : (m < 0) = False := by simp; omega
  unfold F_Stair_call
  refine (x_run (by rfl)).trans ?_
  have lc := lc_cnt (S := S) (p := .nm 4) (t := f1 dBool (f2 dLe (fVar 4) (fVar 3))) (env := [some (st n g L), some (.int m), some (.int (m / n)), some (.int (m % n)), none]) (k := fun r => decide (r ≤ m % n)) (L := L) fun r _ => ⟨[some (st n g L), some (.int m), some (.int (m / n)), some (.int (m % n)), some (.int r)], x_bind, by simp only [ap_f2, ap_cons, ap_cons2, ap_and, ap_or, ap_not, ap_if, ap_andV, ap_andV2, ap_orV, ap_orV2, ap_notV, ap_notV2, ap_ch1, ap_ch2, ap_ch3, ap_ch4, ap_lst, ap_tup, ap_lstM, ap_sl, ap_sl2, ap_ret, ap_drop, ap_set, ap_nx, ap_asg, ap_par, ap_par3, ap_r1, ap_r2, ap_si1, ap_si2, ap_si3, ap_sf1, ap_sf2, ap_for, ap_lcE, x_var, vK_some, x_c, x_f1, x_f2, x_nil, x_cons, x_and, x_or, x_not, x_if, x_andV, x_orV, x_notV, x_chain, x_lst, x_tup, x_lstM, x_sl, x_seq, sqK_nx, sqK_rt, sqK_bk, sqK_ct, x_ret, x_retN, x_drop, x_next, x_brk, x_cnt, x_set, x_asg, x_par, x_par3, x_raise1, x_raise2, x_setI, x_setF, endK_rt, endK_nx, x_for, x_bind, bd_ok, bd_er, bd_bad, bnd_bd, ret_ap, bad_ap, ite_ap, List.map_cons, List.map_nil, List.length_cons, List.length_nil, List.cons_append, List.nil_append, List.replicate, List.getElem?_cons_zero, List.getElem?_cons_succ, List.set_cons_zero, List.set_cons_succ, if_true, if_false, Bool.true_eq_false, Bool.false_eq_true, Bool.not_true, Bool.not_false, ite_true, ite_false, ↓reduceIte, Nat.reduceSub, Nat.reduceAdd, big, Nat.reduceLeDiff, Nat.zero_le, decide_true, decide_false, eq_self, wp_bd, ap_kW, wp_ok, wp_er, lpQ_nx, lpQ_ct, lpQ_bk, lpQ_rt, x_alt2, kAlt_ok, kAlt_er, kAlt_bad, x_altF, x_callO, ap_co1, ap_co2, isC_ins, x_methK, ap_mk1, ap_mk2, x_kw, ap_kw1, ap_kw2, x_heard, wp_noEr, x_lc, ap_lc, x_app, ap_app1, Nat.reduceLT, Nat.reduceBEq, beq_self_eq_true, dBool, dAdd, dSub, dMul, dMod, dFdiv, dPow, dNeg, dLt, dLe, dGt, dGe, eqG_int, eqG_str, eqG_bl, xor_t, xor_f, dIsN, dNotN, dTru, dIx, dLen, dAbs, dInt, dStr, dMax2, dMin2, dMul8, dRep, dApp]⟩
  have hl := ok.hl
  simp only [ap_f2, ap_cons, ap_cons2, ap_and, ap_or, ap_not, ap_if, ap_andV, ap_andV2, ap_orV, ap_orV2, ap_notV, ap_notV2, ap_ch1, ap_ch2, ap_ch3, ap_ch4, ap_lst, ap_tup, ap_lstM, ap_sl, ap_sl2, ap_ret, ap_drop, ap_set, ap_nx, ap_asg, ap_par, ap_par3, ap_r1, ap_r2, ap_si1, ap_si2, ap_si3, ap_sf1, ap_sf2, ap_for, ap_lcE, x_var, vK_some, x_c, x_f1, x_f2, x_nil, x_cons, x_and, x_or, x_not, x_if, x_andV, x_orV, x_notV, x_chain, x_lst, x_tup, x_lstM, x_sl, x_seq, sqK_nx, sqK_rt, sqK_bk, sqK_ct, x_ret, x_retN, x_drop, x_next, x_brk, x_cnt, x_set, x_asg, x_par, x_par3, x_raise1, x_raise2, x_setI, x_setF, endK_rt, endK_nx, x_for, x_bind, bd_ok, bd_er, bd_bad, bnd_bd, ret_ap, bad_ap, ite_ap, List.map_cons, List.map_nil, List.length_cons, List.length_nil, List.cons_append, List.nil_append, List.replicate, List.getElem?_cons_zero, List.getElem?_cons_succ, List.set_cons_zero, List.set_cons_succ, if_true, if_false, Bool.true_eq_false, Bool.false_eq_true, Bool.not_true, Bool.not_false, ite_true, ite_false, ↓reduceIte, Nat.reduceSub, Nat.reduceAdd, big, Nat.reduceLeDiff, Nat.zero_le, decide_true, decide_false, eq_self, wp_bd, ap_kW, wp_ok, wp_er, lpQ_nx, lpQ_ct, lpQ_bk, lpQ_rt, x_alt2, kAlt_ok, kAlt_er, kAlt_bad, x_altF, x_callO, ap_co1, ap_co2, isC_ins, x_methK, ap_mk1, ap_mk2, x_kw, ap_kw1, ap_kw2, x_heard, wp_noEr, x_lc, ap_lc, x_app, ap_app1, Nat.reduceLT, Nat.reduceBEq, beq_self_eq_true, dBool, dAdd, dSub, dMul, dMod, dFdiv, dPow, dNeg, dLt, dLe, dGt, dGe, eqG_int, eqG_str, eqG_bl, xor_t, xor_f, dIsN, dNotN, dTru, dIx, dLen, dAbs, dInt, dStr, dMax2, dMin2, dMul8, dRep, dApp, or_true, true_or, and_self, e_int, h0, fl_len, fl_base, fl_rises, fl_step, ok.hn, ok.hn0, ok.k64, dItems, bind_tp2, asSq, asT, asL, hl, Pat.slots, wipe8, noEr_ok lc, List.length_map, cle_filter, stv_call ok.p ok.r]
theorem e_value {p : Int} (ok : SOk n g L) (h0 : 0 ≤ p) (h1 : p ≤ 1000) : F_value [pt g L, .int n, .int p] S = .ok (.int (stv g n L p)) S := by
  unfold F_value
  refine (x_run (by rfl)).trans ?_
  have hr : (-(2 ^ 62) ≤ (1 : Int) ∧ (1 : Int) < 2 ^ 62 ∧ -(2 ^ 62) ≤ p + 1 ∧ p + 1 < 2 ^ 62) = True := eq_true (by omega)
  have z := stv_zero (g := g) ok.p ok.r
  simp only [ap_f2, ap_cons, ap_cons2, ap_and, ap_or, ap_not, ap_if, ap_andV, ap_andV2, ap_orV, ap_orV2, ap_notV, ap_notV2, ap_ch1, ap_ch2, ap_ch3, ap_ch4, ap_lst, ap_tup, ap_lstM, ap_sl, ap_sl2, ap_ret, ap_drop, ap_set, ap_nx, ap_asg, ap_par, ap_par3, ap_r1, ap_r2, ap_si1, ap_si2, ap_si3, ap_sf1, ap_sf2, ap_for, ap_lcE, x_var, vK_some, x_c, x_f1, x_f2, x_nil, x_cons, x_and, x_or, x_not, x_if, x_andV, x_orV, x_notV, x_chain, x_lst, x_tup, x_lstM, x_sl, x_seq, sqK_nx, sqK_rt, sqK_bk, sqK_ct, x_ret, x_retN, x_drop, x_next, x_brk, x_cnt, x_set, x_asg, x_par, x_par3, x_raise1, x_raise2, x_setI, x_setF, endK_rt, endK_nx, x_for, x_bind, bd_ok, bd_er, bd_bad, bnd_bd, ret_ap, bad_ap, ite_ap, List.map_cons, List.map_nil, List.length_cons, List.length_nil, List.cons_append, List.nil_append, List.replicate, List.getElem?_cons_zero, List.getElem?_cons_succ, List.set_cons_zero, List.set_cons_succ, if_true, if_false, Bool.true_eq_false, Bool.false_eq_true, Bool.not_true, Bool.not_false, ite_true, ite_false, ↓reduceIte, Nat.reduceSub, Nat.reduceAdd, big, Nat.reduceLeDiff, Nat.zero_le, decide_true, decide_false, eq_self, wp_bd, ap_kW, wp_ok, wp_er, lpQ_nx, lpQ_ct, lpQ_bk, lpQ_rt, x_alt2, kAlt_ok, kAlt_er, kAlt_bad, x_altF, x_callO, ap_co1, ap_co2, isC_ins, x_methK, ap_mk1, ap_mk2, x_kw, ap_kw1, ap_kw2, x_heard, wp_noEr, x_lc, ap_lc, x_app, ap_app1, Nat.reduceLT, Nat.reduceBEq, beq_self_eq_true, dBool, dAdd, dSub, dMul, dMod, dFdiv, dPow, dNeg, dLt, dLe, dGt, dGe, eqG_int, eqG_str, eqG_bl, xor_t, xor_f, dIsN, dNotN, dTru, dIx, dLen, dAbs, dInt, dStr, dMax2, dMin2, dMul8, dRep, dApp, pt, bind_tp2, dRange2, hr]
  obtain ⟨e, he, hi⟩ : ∃ e, loopF (.nm 4) L_value_0 ((List.range (p + 1 - 1).toNat).map fun i => D.int (1 + (i : Nat))) [some (pt g L), some (.int n), some (.int p), some (.int g), none, some (.int g), some (.lst (L.map .int)), none] S = .ok (.nx e) S ∧ ∃ x4 x7, e = [some (pt g L), some (.int n), some (.int p), some (.int (stv g n L p)), x4, some (.int g), some (.lst (L.map .int)), x7] := by
    have w := wp_loop (S := S) (X := NoX) (p := .nm 4) (b := L_value_0) (env := [some (pt g L), some (.int n), some (.int p), some (.int g), none, some (.int g), some (.lst (L.map .int)), none]) (ds := (List.range (p + 1 - 1).toNat).map fun i => D.int (1 + (i : Nat)))
      (Q := fun fl S' => S' = S ∧ ∃ e x4 x7, fl = .nx e ∧ e = [some (pt g L), some (.int n), some (.int p), some (.int (stv g n L p)), x4, some (.int g), some (.lst (L.map .int)), x7])
      (fun j e S' => S' = S ∧ ∃ x4 x7, e = [some (pt g L), some (.int n), some (.int p), some (.int (stv g n L j)), x4, some (.int g), some (.lst (L.map .int)), x7]) ⟨rfl, none, none, by rw [show ((0 : Nat) : Int) = 0 from rfl, z]⟩ (fun j d e S' hj hI => ?_) fun e S' hI => ?_
    · obtain ⟨e, S', h1, h2, e', x4, x7, h3, h4⟩ := w.ok
      subst h2 h3
      exact ⟨e', h1, x4, x7, h4⟩
    · obtain ⟨rfl, x4, x7, rfl⟩ := hI
      obtain ⟨i, hi, rfl⟩ : ∃ i : Nat, i = j ∧ d = .int (1 + (i : Nat)) := by
        rw [List.getElem?_map] at hj
        cases hk : (List.range (p + 1 - 1).toNat)[j]? with
        | none => rw [hk] at hj; cases hj
        | some i =>
          rw [hk] at hj
          obtain ⟨h1, h2⟩ := List.getElem?_eq_some_iff.mp hk
          rw [List.getElem_range] at h2
          exact ⟨i, h2.symm, (Option.some.inj hj).symm⟩
      subst hi
      refine ⟨_, x_bind, ?_⟩
      have lc := lc_cnt (S := S') (p := .nm 7) (t := fAnd (f1 dBool (f2 dEq (f2 dMod (f1 dInt (fCons (f2 dSub (fVar 4) (fVar 7)) fNil)) (fVar 1)) (fC (.int 0)))) (f1 dBool (f2 dGe (fVar 4) (fVar 7)))) (env := [some (pt g L), some (.int n), some (.int p), some (.int (stv g n L i)), some (.int (1 + (i : Nat))), some (.int g), some (.lst (L.map .int)), none]) (k := fun r => decide ((1 + (i : Nat) - r) % n = 0) && decide (1 + (i : Nat) ≥ r)) (L := L) fun r _ => ⟨[some (pt g L), some (.int n), some (.int p), some (.int (stv g n L i)), some (.int (1 + (i : Nat))), some (.int g), some (.lst (L.map .int)), some (.int r)], x_bind, by
        simp only [ap_f2, ap_cons, ap_cons2, ap_and, ap_or, ap_not, ap_if, ap_andV, ap_andV2, ap_orV, ap_orV2, ap_notV, ap_notV2, ap_ch1, ap_ch2, ap_ch3, ap_ch4, ap_lst, ap_tup, ap_lstM, ap_sl, ap_sl2, ap_ret, ap_drop, ap_set, ap_nx, ap_asg, ap_par, ap_par3, ap_r1, ap_r2, ap_si1, ap_si2, ap_si3, ap_sf1, ap_sf2, ap_for, ap_lcE, x_var, vK_some, x_c, x_f1, x_f2, x_nil, x_cons, x_and, x_or, x_not, x_if, x_andV, x_orV, x_notV, x_chain, x_lst, x_tup, x_lstM, x_sl, x_seq, sqK_nx, sqK_rt, sqK_bk, sqK_ct, x_ret, x_retN, x_drop, x_next, x_brk, x_cnt, x_set, x_asg, x_par, x_par3, x_raise1, x_raise2, x_setI, x_setF, endK_rt, endK_nx, x_for, x_bind, bd_ok, bd_er, bd_bad, bnd_bd, ret_ap, bad_ap, ite_ap, List.map_cons, List.map_nil, List.length_cons, List.length_nil, List.cons_append, List.nil_append, List.replicate, List.getElem?_cons_zero, List.getElem?_cons_succ, List.set_cons_zero, List.set_cons_succ, if_true, if_false, Bool.true_eq_false, Bool.false_eq_true, Bool.not_true, Bool.not_false, ite_true, ite_false, ↓reduceIte, Nat.reduceSub, Nat.reduceAdd, big, Nat.reduceLeDiff, Nat.zero_le, decide_true, decide_false, eq_self, wp_bd, ap_kW, wp_ok, wp_er, lpQ_nx, lpQ_ct, lpQ_bk, lpQ_rt, x_alt2, kAlt_ok, kAlt_er, kAlt_bad, x_altF, x_callO, ap_co1, ap_co2, isC_ins, x_methK, ap_mk1, ap_mk2, x_kw, ap_kw1, ap_kw2, x_heard, wp_noEr, x_lc, ap_lc, x_app, ap_app1, Nat.reduceLT, Nat.reduceBEq, beq_self_eq_true, dBool, dAdd, dSub, dMul, dMod, dFdiv, dPow, dNeg, dLt, dLe, dGt, dGe, eqG_int, eqG_str, eqG_bl, xor_t, xor_f, dIsN, dNotN, dTru, dIx, dLen, dAbs, dInt, dStr, dMax2, dMin2, dMul8, dRep, dApp, ok.hn0]
        by_cases h : (1 + (i : Nat) - r) % n = 0
        · simp only [h, ap_f2, ap_cons, ap_cons2, ap_and, ap_or, ap_not, ap_if, ap_andV, ap_andV2, ap_orV, ap_orV2, ap_notV, ap_notV2, ap_ch1, ap_ch2, ap_ch3, ap_ch4, ap_lst, ap_tup, ap_lstM, ap_sl, ap_sl2, ap_ret, ap_drop, ap_set, ap_nx, ap_asg, ap_par, ap_par3, ap_r1, ap_r2, ap_si1, ap_si2, ap_si3, ap_sf1, ap_sf2, ap_for, ap_lcE, x_var, vK_some, x_c, x_f1, x_f2, x_nil, x_cons, x_and, x_or, x_not, x_if, x_andV, x_orV, x_notV, x_chain, x_lst, x_tup, x_lstM, x_sl, x_seq, sqK_nx, sqK_rt, sqK_bk, sqK_ct, x_ret, x_retN, x_drop, x_next, x_brk, x_cnt, x_set, x_asg, x_par, x_par3, x_raise1, x_raise2, x_setI, x_setF, endK_rt, endK_nx, x_for, x_bind, bd_ok, bd_er, bd_bad, bnd_bd, ret_ap, bad_ap, ite_ap, List.map_cons, List.map_nil, List.length_cons, List.length_nil, List.cons_append, List.nil_append, List.replicate, List.getElem?_cons_zero, List.getElem?_cons_succ, List.set_cons_zero, List.set_cons_succ, if_true, if_false, Bool.true_eq_false, Bool.false_eq_true, Bool.not_true, Bool.not_false, ite_true, ite_false, ↓reduceIte, Nat.reduceSub, Nat.reduceAdd, big, Nat.reduceLeDiff, Nat.zero_le, decide_true, decide_false, eq_self, wp_bd, ap_kW, wp_ok, wp_er, lpQ_nx, lpQ_ct, lpQ_bk, lpQ_rt, x_alt2, kAlt_ok, kAlt_er, kAlt_bad, x_altF, x_callO, ap_co1, ap_co2, isC_ins, x_methK, ap_mk1, ap_mk2, x_kw, ap_kw1, ap_kw2, x_heard, wp_noEr, x_lc, ap_lc, x_app, ap_app1, Nat.reduceLT, Nat.reduceBEq, beq_self_eq_true, dBool, dAdd, dSub, dMul, dMod, dFdiv, dPow, dNeg, dLt, dLe, dGt, dGe, eqG_int, eqG_str, eqG_bl, xor_t, xor_f, dIsN, dNotN, dTru, dIx, dLen, dAbs, dInt, dStr, dMax2, dMin2, dMul8, dRep, dApp, Bool.true_and]
        · simp only [h, ap_f2, ap_cons, ap_cons2, ap_and, ap_or, ap_not, ap_if, ap_andV, ap_andV2, ap_orV, ap_orV2, ap_notV, ap_notV2, ap_ch1, ap_ch2, ap_ch3, ap_ch4, ap_lst, ap_tup, ap_lstM, ap_sl, ap_sl2, ap_ret, ap_drop, ap_set, ap_nx, ap_asg, ap_par, ap_par3, ap_r1, ap_r2, ap_si1, ap_si2, ap_si3, ap_sf1, ap_sf2, ap_for, ap_lcE, x_var, vK_some, x_c, x_f1, x_f2, x_nil, x_cons, x_and, x_or, x_not, x_if, x_andV, x_orV, x_notV, x_chain, x_lst, x_tup, x_lstM, x_sl, x_seq, sqK_nx, sqK_rt, sqK_bk, sqK_ct, x_ret, x_retN, x_drop, x_next, x_brk, x_cnt, x_set, x_asg, x_par, x_par3, x_raise1, x_raise2, x_setI, x_setF, endK_rt, endK_nx, x_for, x_bind, bd_ok, bd_er, bd_bad, bnd_bd, ret_ap, bad_ap, ite_ap, List.map_cons, List.map_nil, List.length_cons, List.length_nil, List.cons_append, List.nil_append, List.replicate, List.getElem?_cons_zero, List.getElem?_cons_succ, List.set_cons_zero, List.set_cons_succ, if_true, if_false, Bool.true_eq_false, Bool.false_eq_true, Bool.not_true, Bool.not_false, ite_true, ite_false, ↓reduceIte, Nat.reduceSub, Nat.reduceAdd, big, Nat.reduceLeDiff, Nat.zero_le, decide_true, decide_false, eq_self, wp_bd, ap_kW, wp_ok, wp_er, lpQ_nx, lpQ_ct, lpQ_bk, lpQ_rt, x_alt2, kAlt_ok, kAlt_er, kAlt_bad, x_altF, x_callO, ap_co1, ap_co2, isC_ins, x_methK, ap_mk1, ap_mk2, x_kw, ap_kw1, ap_kw2, x_heard, wp_noEr, x_lc, ap_lc, x_app, ap_app1, Nat.reduceLT, Nat.reduceBEq, beq_self_eq_true, dBool, dAdd, dSub, dMul, dMod, dFdiv, dPow, dNeg, dLt, dLe, dGt, dGe, eqG_int, eqG_str, eqG_bl, xor_t, xor_f, dIsN, dNotN, dTru, dIx, dLen, dAbs, dInt, dStr, dMax2, dMin2, dMul8, dRep, dApp, Bool.false_and]⟩
      have hl := ok.hl
      have hs := stv_step (g := g) (n := n) (m := 1 + (i : Nat)) ok.p (by omega) ok.r
      unfold L_value_0
      simp only [ap_f2, ap_cons, ap_cons2, ap_and, ap_or, ap_not, ap_if, ap_andV, ap_andV2, ap_orV, ap_orV2, ap_notV, ap_notV2, ap_ch1, ap_ch2, ap_ch3, ap_ch4, ap_lst, ap_tup, ap_lstM, ap_sl, ap_sl2, ap_ret, ap_drop, ap_set, ap_nx, ap_asg, ap_par, ap_par3, ap_r1, ap_r2, ap_si1, ap_si2, ap_si3, ap_sf1, ap_sf2, ap_for, ap_lcE, x_var, vK_some, x_c, x_f1, x_f2, x_nil, x_cons, x_and, x_or, x_not, x_if, x_andV, x_orV, x_notV, x_chain, x_lst, x_tup, x_lstM, x_sl, x_seq, sqK_nx, sqK_rt, sqK_bk, sqK_ct, x_ret, x_retN, x_drop, x_next, x_brk, x_cnt, x_set, x_asg, x_par, x_par3, x_raise1, x_raise2, x_setI, x_setF, endK_rt, endK_nx, x_for, x_bind, bd_ok, bd_er, bd_bad, bnd_bd, ret_ap, bad_ap, ite_ap, List.map_cons, List.map_nil, List.length_cons, List.length_nil, List.cons_append, List.nil_append, List.replicate, List.getElem?_cons_zero, List.getElem?_cons_succ, List.set_cons_zero, List.set_cons_succ, if_true, if_false, Bool.true_eq_false, Bool.false_eq_true, Bool.not_true, Bool.not_false, ite_true, ite_false, ↓reduceIte, Nat.reduceSub, Nat.reduceAdd, big, Nat.reduceLeDiff, Nat.zero_le, decide_true, decide_false, eq_self, wp_bd, ap_kW, wp_ok, wp_er, lpQ_nx, lpQ_ct, lpQ_bk, lpQ_rt, x_alt2, kAlt_ok, kAlt_er, kAlt_bad, x_altF, x_callO, ap_co1, ap_co2, isC_ins, x_methK, ap_mk1, ap_mk2, x_kw, ap_kw1, ap_kw2, x_heard, wp_noEr, x_lc, ap_lc, x_app, ap_app1, Nat.reduceLT, Nat.reduceBEq, beq_self_eq_true, dBool, dAdd, dSub, dMul, dMod, dFdiv, dPow, dNeg, dLt, dLe, dGt, dGe, eqG_int, eqG_str, eqG_bl, xor_t, xor_f, dIsN, dNotN, dTru, dIx, dLen, dAbs, dInt, dStr, dMax2, dMin2, dMul8, dRep, dApp, dItems, asSq, asT, hl, noEr_ok lc, List.length_map, hits_filter, Pat.slots, wipe8]
      refine ⟨rfl, some (.int (1 + (i : Nat))), x7, ?_⟩
      simp only [List.length_map, hits_filter, List.set_cons_succ, List.set_cons_zero]
      rw [show ((i + 1 : Nat) : Int) = 1 + (i : Nat) by omega, hs, show (1 + (i : Nat) - 1 : Int) = (i : Nat) by omega]
    · obtain ⟨rfl, x4, x7, rfl⟩ := hI
      refine ⟨rfl, _, x4, x7, rfl, ?_⟩
      rw [List.length_map, List.length_range, show (((p + 1 - 1).toNat : Nat) : Int) = p by omega]
  obtain ⟨x4, x7, rfl⟩ := hi
  simp only [pt] at he
  simp only [he, ap_f2, ap_cons, ap_cons2, ap_and, ap_or, ap_not, ap_if, ap_andV, ap_andV2, ap_orV, ap_orV2, ap_notV, ap_notV2, ap_ch1, ap_ch2, ap_ch3, ap_ch4, ap_lst, ap_tup, ap_lstM, ap_sl, ap_sl2, ap_ret, ap_drop, ap_set, ap_nx, ap_asg, ap_par, ap_par3, ap_r1, ap_r2, ap_si1, ap_si2, ap_si3, ap_sf1, ap_sf2, ap_for, ap_lcE, x_var, vK_some, x_c, x_f1, x_f2, x_nil, x_cons, x_and, x_or, x_not, x_if, x_andV, x_orV, x_notV, x_chain, x_lst, x_tup, x_lstM, x_sl, x_seq, sqK_nx, sqK_rt, sqK_bk, sqK_ct, x_ret, x_retN, x_drop, x_next, x_brk, x_cnt, x_set, x_asg, x_par, x_par3, x_raise1, x_raise2, x_setI, x_setF, endK_rt, endK_nx, x_for, x_bind, bd_ok, bd_er, bd_bad, bnd_bd, ret_ap, bad_ap, ite_ap, List.map_cons, List.map_nil, List.length_cons, List.length_nil, List.cons_append, List.nil_append, List.replicate, List.getElem?_cons_zero, List.getElem?_cons_succ, List.set_cons_zero, List.set_cons_succ, if_true, if_false, Bool.true_eq_false, Bool.false_eq_true, Bool.not_true, Bool.not_false, ite_true, ite_false, ↓reduceIte, Nat.reduceSub, Nat.reduceAdd, big, Nat.reduceLeDiff, Nat.zero_le, decide_true, decide_false, eq_self, wp_bd, ap_kW, wp_ok, wp_er, lpQ_nx, lpQ_ct, lpQ_bk, lpQ_rt, x_alt2, kAlt_ok, kAlt_er, kAlt_bad, x_altF, x_callO, ap_co1, ap_co2, isC_ins, x_methK, ap_mk1, ap_mk2, x_kw, ap_kw1, ap_kw2, x_heard, wp_noEr, x_lc, ap_lc, x_app, ap_app1, Nat.reduceLT, Nat.reduceBEq, beq_self_eq_true, dBool, dAdd, dSub, dMul, dMod, dFdiv, dPow, dNeg, dLt, dLe, dGt, dGe, eqG_int, eqG_str, eqG_bl, xor_t, xor_f, dIsN, dNotN, dTru, dIx, dLen, dAbs, dInt, dStr, dMax2, dMin2, dMul8, dRep, dApp]
end
end Ol

namespace Ol
open PySem L2 LamX
section
variable {S : Store} {n g m n' g' c : Int} {L L' : List Int}
def lp (g n : Int) (L : List Int) (c : Int) : Int := (L.getD ((c - g) % (L.length : Int)).toNat 0) + n * ((c - g) / (L.length : Int)) - 1
theorem SOk.ix (hk : L ≠ []) (c : Int) : L[((c - g) % (L.length : Int)).toNat]? = some (L.getD ((c - g) % (L.length : Int)).toNat 0) ∧ 0 ≤ (c - g) % (L.length : Int) ∧ 0 < (L.length : Int) := by
  have kp : 0 < (L.length : Int) := by
    cases L with
    | nil => exact absurd rfl hk
    | cons a b => simp only [List.length_cons]; omega
  have l0 := Int.emod_nonneg (c - g) (show (L.length : Int) ≠ 0 by omega)
  have l1 := Int.emod_lt_of_pos (c - g) kp
  have hi : ((c - g) % (L.length : Int)).toNat < L.length := by omega
  refine ⟨?_, l0, kp⟩
  rw [List.getD_eq_getElem?_getD, List.getElem?_eq_getElem hi]
  rfl
theorem lp_all (ok : SOk n g L) (hk : L ≠ []) (hc : g ≤ c) : 0 ≤ lp g n L c ∧ stv g n L (lp g n L c) ≤ c ∧ c < stv g n L (lp g n L c + 1) := lp_spec ok.p ok.r ok.s hc hk (SOk.ix hk c).1
theorem at_intsL {i : Int} (h0 : 0 ≤ i) {x : Int} (h : L[i.toNat]? = some x) : atI (L.map D.int) i = some (.int x) := by
  obtain ⟨j, rfl⟩ : ∃ j : Nat, i = j := ⟨i.toNat, by omega⟩
  simp only [Int.toNat_natCast] at h
  have hj := (List.getElem?_eq_some_iff.mp h).1
  unfold atI
  rw [List.length_map, Evl.ixN_nat hj]
  simp [h]
theorem e_lp_lo (ok : SOk n g L) (hc : c < g) : F_Stair_longest_pause [st n g L, .int c] S = .ok (.int (-1)) S := by
  unfold F_Stair_longest_pause
  refine (x_run (by rfl)).trans ?_
  have h : (c < g) = True := eq_true hc
  simp only [ap_f2, ap_cons, ap_cons2, ap_and, ap_or, ap_not, ap_if, ap_andV, ap_andV2, ap_orV, ap_orV2, ap_notV, ap_notV2, ap_ch1, ap_ch2, ap_ch3, ap_ch4, ap_lst, ap_tup, ap_lstM, ap_sl, ap_sl2, ap_ret, ap_drop, ap_set, ap_nx, ap_asg, ap_par, ap_par3, ap_r1, ap_r2, ap_si1, ap_si2, ap_si3, ap_sf1, ap_sf2, ap_for, ap_lcE, x_var, vK_some, x_c, x_f1, x_f2, x_nil, x_cons, x_and, x_or, x_not, x_if, x_andV, x_orV, x_notV, x_chain, x_lst, x_tup, x_lstM, x_sl, x_seq, sqK_nx, sqK_rt, sqK_bk, sqK_ct, x_ret, x_retN, x_drop, x_next, x_brk, x_cnt, x_set, x_asg, x_par, x_par3, x_raise1, x_raise2, x_setI, x_setF, endK_rt, endK_nx, x_for, x_bind, bd_ok, bd_er, bd_bad, bnd_bd, ret_ap, bad_ap, ite_ap, List.map_cons, List.map_nil, List.length_cons, List.length_nil, List.cons_append, List.nil_append, List.replicate, List.getElem?_cons_zero, List.getElem?_cons_succ, List.set_cons_zero, List.set_cons_succ, if_true, if_false, Bool.true_eq_false, Bool.false_eq_true, Bool.not_true, Bool.not_false, ite_true, ite_false, ↓reduceIte, Nat.reduceSub, Nat.reduceAdd, big, Nat.reduceLeDiff, Nat.zero_le, decide_true, decide_false, eq_self, wp_bd, ap_kW, wp_ok, wp_er, lpQ_nx, lpQ_ct, lpQ_bk, lpQ_rt, x_alt2, kAlt_ok, kAlt_er, kAlt_bad, x_altF, x_callO, ap_co1, ap_co2, isC_ins, x_methK, ap_mk1, ap_mk2, x_kw, ap_kw1, ap_kw2, x_heard, wp_noEr, x_lc, ap_lc, x_app, ap_app1, Nat.reduceLT, Nat.reduceBEq, beq_self_eq_true, dBool, dAdd, dSub, dMul, dMod, dFdiv, dPow, dNeg, dLt, dLe, dGt, dGe, eqG_int, eqG_str, eqG_bl, xor_t, xor_f, dIsN, dNotN, dTru, dIx, dLen, dAbs, dInt, dStr, dMax2, dMin2, dMul8, dRep, dApp, fl_base, h]
theorem e_lp_non (ok : SOk n g []) (hc : g ≤ c) : F_Stair_longest_pause [st n g [], .int c] S = .ok .non S := by
  unfold F_Stair_longest_pause
  refine (x_run (by rfl)).trans ?_
  have h : (c < g) = False := eq_false (by omega)
  have h0 : (((([] : List Int).length : Nat) : Int) = 0) = True := eq_true rfl
  simp only [ap_f2, ap_cons, ap_cons2, ap_and, ap_or, ap_not, ap_if, ap_andV, ap_andV2, ap_orV, ap_orV2, ap_notV, ap_notV2, ap_ch1, ap_ch2, ap_ch3, ap_ch4, ap_lst, ap_tup, ap_lstM, ap_sl, ap_sl2, ap_ret, ap_drop, ap_set, ap_nx, ap_asg, ap_par, ap_par3, ap_r1, ap_r2, ap_si1, ap_si2, ap_si3, ap_sf1, ap_sf2, ap_for, ap_lcE, x_var, vK_some, x_c, x_f1, x_f2, x_nil, x_cons, x_and, x_or, x_not, x_if, x_andV, x_orV, x_notV, x_chain, x_lst, x_tup, x_lstM, x_sl, x_seq, sqK_nx, sqK_rt, sqK_bk, sqK_ct, x_ret, x_retN, x_drop, x_next, x_brk, x_cnt, x_set, x_asg, x_par, x_par3, x_raise1, x_raise2, x_setI, x_setF, endK_rt, endK_nx, x_for, x_bind, bd_ok, bd_er, bd_bad, bnd_bd, ret_ap, bad_ap, ite_ap, List.map_cons, List.map_nil, List.length_cons, List.length_nil, List.cons_append, List.nil_append, List.replicate, List.getElem?_cons_zero, List.getElem?_cons_succ, List.set_cons_zero, List.set_cons_succ, if_true, if_false, Bool.true_eq_false, Bool.false_eq_true, Bool.not_true, Bool.not_false, ite_true, ite_false, ↓reduceIte, Nat.reduceSub, Nat.reduceAdd, big, Nat.reduceLeDiff, Nat.zero_le, decide_true, decide_false, eq_self, wp_bd, ap_kW, wp_ok, wp_er, lpQ_nx, lpQ_ct, lpQ_bk, lpQ_rt, x_alt2, kAlt_ok, kAlt_er, kAlt_bad, x_altF, x_callO, ap_co1, ap_co2, isC_ins, x_methK, ap_mk1, ap_mk2, x_kw, ap_kw1, ap_kw2, x_heard, wp_noEr, x_lc, ap_lc, x_app, ap_app1, Nat.reduceLT, Nat.reduceBEq, beq_self_eq_true, dBool, dAdd, dSub, dMul, dMod, dFdiv, dPow, dNeg, dLt, dLe, dGt, dGe, eqG_int, eqG_str, eqG_bl, xor_t, xor_f, dIsN, dNotN, dTru, dIx, dLen, dAbs, dInt, dStr, dMax2, dMin2, dMul8, dRep, dApp, fl_base, fl_step, h]
  rfl
theorem e_lp (ok : SOk n g L) (hk : L ≠ []) (hc : g ≤ c) : F_Stair_longest_pause [st n g L, .int c] S = .ok (.int (lp g n L c)) S := by
  unfold F_Stair_longest_pause
  refine (x_run (by rfl)).trans ?_
  obtain ⟨h1, h2, h3⟩ := SOk.ix (g := g) hk c
  have h : (c < g) = False := eq_false (by omega)
  have h0 : ((L.length : Int) = 0) = False := eq_false (by omega)
  have h4 : (0 < (L.length : Int)) = True := eq_true h3
  have h5 : ((L.length : Int).natAbs.log2 < 9000) = True := eq_true (Nat.lt_of_lt_of_le (PySem.Flt.log2_lt_of (by decide) (show (L.length : Int).natAbs < 2 ^ 10 by have := ok.l; omega)) (by decide))
  have h6 : (n.natAbs < 2 ^ 64) = True := eq_true (by have := ok.a; omega)
  simp only [ap_f2, ap_cons, ap_cons2, ap_and, ap_or, ap_not, ap_if, ap_andV, ap_andV2, ap_orV, ap_orV2, ap_notV, ap_notV2, ap_ch1, ap_ch2, ap_ch3, ap_ch4, ap_lst, ap_tup, ap_lstM, ap_sl, ap_sl2, ap_ret, ap_drop, ap_set, ap_nx, ap_asg, ap_par, ap_par3, ap_r1, ap_r2, ap_si1, ap_si2, ap_si3, ap_sf1, ap_sf2, ap_for, ap_lcE, x_var, vK_some, x_c, x_f1, x_f2, x_nil, x_cons, x_and, x_or, x_not, x_if, x_andV, x_orV, x_notV, x_chain, x_lst, x_tup, x_lstM, x_sl, x_seq, sqK_nx, sqK_rt, sqK_bk, sqK_ct, x_ret, x_retN, x_drop, x_next, x_brk, x_cnt, x_set, x_asg, x_par, x_par3, x_raise1, x_raise2, x_setI, x_setF, endK_rt, endK_nx, x_for, x_bind, bd_ok, bd_er, bd_bad, bnd_bd, ret_ap, bad_ap, ite_ap, List.map_cons, List.map_nil, List.length_cons, List.length_nil, List.cons_append, List.nil_append, List.replicate, List.getElem?_cons_zero, List.getElem?_cons_succ, List.set_cons_zero, List.set_cons_succ, if_true, if_false, Bool.true_eq_false, Bool.false_eq_true, Bool.not_true, Bool.not_false, ite_true, ite_false, ↓reduceIte, Nat.reduceSub, Nat.reduceAdd, big, Nat.reduceLeDiff, Nat.zero_le, decide_true, decide_false, eq_self, wp_bd, ap_kW, wp_ok, wp_er, lpQ_nx, lpQ_ct, lpQ_bk, lpQ_rt, x_alt2, kAlt_ok, kAlt_er, kAlt_bad, x_altF, x_callO, ap_co1, ap_co2, isC_ins, x_methK, ap_mk1, ap_mk2, x_kw, ap_kw1, ap_kw2, x_heard, wp_noEr, x_lc, ap_lc, x_app, ap_app1, Nat.reduceLT, Nat.reduceBEq, beq_self_eq_true, dBool, dAdd, dSub, dMul, dMod, dFdiv, dPow, dNeg, dLt, dLe, dGt, dGe, eqG_int, eqG_str, eqG_bl, xor_t, xor_f, dIsN, dNotN, dTru, dIx, dLen, dAbs, dInt, dStr, dMax2, dMin2, dMul8, dRep, dApp, fl_base, fl_step, fl_rises, fl_len, h, h0, h4, h5, h6, and_self, true_or, asSq, asT, asL, at_intsL h2 h1]
  rfl
theorem isS (n g : Int) (L : List Int) : dIsi kOwn kErs kTb [st n g L, .cls 39] S = .ok (.bl true) S := by simp only [st, ap_f2, ap_cons, ap_cons2, ap_and, ap_or, ap_not, ap_if, ap_andV, ap_andV2, ap_orV, ap_orV2, ap_notV, ap_notV2, ap_ch1, ap_ch2, ap_ch3, ap_ch4, ap_lst, ap_tup, ap_lstM, ap_sl, ap_sl2, ap_ret, ap_drop, ap_set, ap_nx, ap_asg, ap_par, ap_par3, ap_r1, ap_r2, ap_si1, ap_si2, ap_si3, ap_sf1, ap_sf2, ap_for, ap_lcE, x_var, vK_some, x_c, x_f1, x_f2, x_nil, x_cons, x_and, x_or, x_not, x_if, x_andV, x_orV, x_notV, x_chain, x_lst, x_tup, x_lstM, x_sl, x_seq, sqK_nx, sqK_rt, sqK_bk, sqK_ct, x_ret, x_retN, x_drop, x_next, x_brk, x_cnt, x_set, x_asg, x_par, x_par3, x_raise1, x_raise2, x_setI, x_setF, endK_rt, endK_nx, x_for, x_bind, bd_ok, bd_er, bd_bad, bnd_bd, ret_ap, bad_ap, ite_ap, List.map_cons, List.map_nil, List.length_cons, List.length_nil, List.cons_append, List.nil_append, List.replicate, List.getElem?_cons_zero, List.getElem?_cons_succ, List.set_cons_zero, List.set_cons_succ, if_true, if_false, Bool.true_eq_false, Bool.false_eq_true, Bool.not_true, Bool.not_false, ite_true, ite_false, ↓reduceIte, Nat.reduceSub, Nat.reduceAdd, big, Nat.reduceLeDiff, Nat.zero_le, decide_true, decide_false, eq_self, wp_bd, ap_kW, wp_ok, wp_er, lpQ_nx, lpQ_ct, lpQ_bk, lpQ_rt, x_alt2, kAlt_ok, kAlt_er, kAlt_bad, x_altF, x_callO, ap_co1, ap_co2, isC_ins, x_methK, ap_mk1, ap_mk2, x_kw, ap_kw1, ap_kw2, x_heard, wp_noEr, x_lc, ap_lc, x_app, ap_app1, Nat.reduceLT, Nat.reduceBEq, beq_self_eq_true, kt0, kt1, kt2, kt3, kt4, kt5, kt6, kt7, kt8, kt9, kt10, kt11, kt12, kt13, kt14, kt15, kt16, kt17, kt18, kt19, kt20, kt21, kt22, kt23, kt24, kt25, kt26, kt27, kt28, kt29, kt30, kt31, kt32, kt33, kt34, kt35, kt36, kt37, kt38, kt39, kt40, kt41, kt42, kt43, kt44, kt45, kt46, kt47, kt48, kt49, kt50, kt51, kt52, kt53, kt54, kt55, kt56, kt57, kt58, kt59, kt60, kt61, kt62, kt63, kt64, kt65, kt66, kt67, kt68, kt69, kt70, kt71, kt72, kt73, kt74, kt75, kt76, kt77, kt78, kt79, kt80, kt81, kt82, kt83, kt84, kt85, kt86, kt87, kty, ko39, ke12, ke18, ke26, dIsi, kindOf, tagOf, clsTag]
theorem e_need (h : n = n') : F_Stair_need_like [st n g L, st n' g' L'] S = .ok .non S := by
  subst h
  unfold F_Stair_need_like
  refine (x_run (by rfl)).trans ?_
  simp only [ap_f2, ap_cons, ap_cons2, ap_and, ap_or, ap_not, ap_if, ap_andV, ap_andV2, ap_orV, ap_orV2, ap_notV, ap_notV2, ap_ch1, ap_ch2, ap_ch3, ap_ch4, ap_lst, ap_tup, ap_lstM, ap_sl, ap_sl2, ap_ret, ap_drop, ap_set, ap_nx, ap_asg, ap_par, ap_par3, ap_r1, ap_r2, ap_si1, ap_si2, ap_si3, ap_sf1, ap_sf2, ap_for, ap_lcE, x_var, vK_some, x_c, x_f1, x_f2, x_nil, x_cons, x_and, x_or, x_not, x_if, x_andV, x_orV, x_notV, x_chain, x_lst, x_tup, x_lstM, x_sl, x_seq, sqK_nx, sqK_rt, sqK_bk, sqK_ct, x_ret, x_retN, x_drop, x_next, x_brk, x_cnt, x_set, x_asg, x_par, x_par3, x_raise1, x_raise2, x_setI, x_setF, endK_rt, endK_nx, x_for, x_bind, bd_ok, bd_er, bd_bad, bnd_bd, ret_ap, bad_ap, ite_ap, List.map_cons, List.map_nil, List.length_cons, List.length_nil, List.cons_append, List.nil_append, List.replicate, List.getElem?_cons_zero, List.getElem?_cons_succ, List.set_cons_zero, List.set_cons_succ, if_true, if_false, Bool.true_eq_false, Bool.false_eq_true, Bool.not_true, Bool.not_false, ite_true, ite_false, ↓reduceIte, Nat.reduceSub, Nat.reduceAdd, big, Nat.reduceLeDiff, Nat.zero_le, decide_true, decide_false, eq_self, wp_bd, ap_kW, wp_ok, wp_er, lpQ_nx, lpQ_ct, lpQ_bk, lpQ_rt, x_alt2, kAlt_ok, kAlt_er, kAlt_bad, x_altF, x_callO, ap_co1, ap_co2, isC_ins, x_methK, ap_mk1, ap_mk2, x_kw, ap_kw1, ap_kw2, x_heard, wp_noEr, x_lc, ap_lc, x_app, ap_app1, Nat.reduceLT, Nat.reduceBEq, beq_self_eq_true, dBool, dAdd, dSub, dMul, dMod, dFdiv, dPow, dNeg, dLt, dLe, dGt, dGe, eqG_int, eqG_str, eqG_bl, xor_t, xor_f, dIsN, dNotN, dTru, dIx, dLen, dAbs, dInt, dStr, dMax2, dMin2, dMul8, dRep, dApp, isS, fl_len]
theorem e_needU (h : n ≠ n') : F_Stair_need_like [st n g L, st n' g' L'] S = .er 26 [("part", .str "length")] S := by
  unfold F_Stair_need_like
  refine (x_run (by rfl)).trans ?_
  have h' : (n = n') = False := eq_false h
  simp only [ap_f2, ap_cons, ap_cons2, ap_and, ap_or, ap_not, ap_if, ap_andV, ap_andV2, ap_orV, ap_orV2, ap_notV, ap_notV2, ap_ch1, ap_ch2, ap_ch3, ap_ch4, ap_lst, ap_tup, ap_lstM, ap_sl, ap_sl2, ap_ret, ap_drop, ap_set, ap_nx, ap_asg, ap_par, ap_par3, ap_r1, ap_r2, ap_si1, ap_si2, ap_si3, ap_sf1, ap_sf2, ap_for, ap_lcE, x_var, vK_some, x_c, x_f1, x_f2, x_nil, x_cons, x_and, x_or, x_not, x_if, x_andV, x_orV, x_notV, x_chain, x_lst, x_tup, x_lstM, x_sl, x_seq, sqK_nx, sqK_rt, sqK_bk, sqK_ct, x_ret, x_retN, x_drop, x_next, x_brk, x_cnt, x_set, x_asg, x_par, x_par3, x_raise1, x_raise2, x_setI, x_setF, endK_rt, endK_nx, x_for, x_bind, bd_ok, bd_er, bd_bad, bnd_bd, ret_ap, bad_ap, ite_ap, List.map_cons, List.map_nil, List.length_cons, List.length_nil, List.cons_append, List.nil_append, List.replicate, List.getElem?_cons_zero, List.getElem?_cons_succ, List.set_cons_zero, List.set_cons_succ, if_true, if_false, Bool.true_eq_false, Bool.false_eq_true, Bool.not_true, Bool.not_false, ite_true, ite_false, ↓reduceIte, Nat.reduceSub, Nat.reduceAdd, big, Nat.reduceLeDiff, Nat.zero_le, decide_true, decide_false, eq_self, wp_bd, ap_kW, wp_ok, wp_er, lpQ_nx, lpQ_ct, lpQ_bk, lpQ_rt, x_alt2, kAlt_ok, kAlt_er, kAlt_bad, x_altF, x_callO, ap_co1, ap_co2, isC_ins, x_methK, ap_mk1, ap_mk2, x_kw, ap_kw1, ap_kw2, x_heard, wp_noEr, x_lc, ap_lc, x_app, ap_app1, Nat.reduceLT, Nat.reduceBEq, beq_self_eq_true, dBool, dAdd, dSub, dMul, dMod, dFdiv, dPow, dNeg, dLt, dLe, dGt, dGe, eqG_int, eqG_str, eqG_bl, xor_t, xor_f, dIsN, dNotN, dTru, dIx, dLen, dAbs, dInt, dStr, dMax2, dMin2, dMul8, dRep, dApp, isS, fl_len, h']
theorem e_needN {d : D} (h : dIsi kOwn kErs kTb [d, .cls 39] S = .ok (.bl false) S) : F_Stair_need_like [st n g L, d] S = .er 18 [("part", .str "stair")] S := by
  unfold F_Stair_need_like
  refine (x_run (by rfl)).trans ?_
  simp only [ap_f2, ap_cons, ap_cons2, ap_and, ap_or, ap_not, ap_if, ap_andV, ap_andV2, ap_orV, ap_orV2, ap_notV, ap_notV2, ap_ch1, ap_ch2, ap_ch3, ap_ch4, ap_lst, ap_tup, ap_lstM, ap_sl, ap_sl2, ap_ret, ap_drop, ap_set, ap_nx, ap_asg, ap_par, ap_par3, ap_r1, ap_r2, ap_si1, ap_si2, ap_si3, ap_sf1, ap_sf2, ap_for, ap_lcE, x_var, vK_some, x_c, x_f1, x_f2, x_nil, x_cons, x_and, x_or, x_not, x_if, x_andV, x_orV, x_notV, x_chain, x_lst, x_tup, x_lstM, x_sl, x_seq, sqK_nx, sqK_rt, sqK_bk, sqK_ct, x_ret, x_retN, x_drop, x_next, x_brk, x_cnt, x_set, x_asg, x_par, x_par3, x_raise1, x_raise2, x_setI, x_setF, endK_rt, endK_nx, x_for, x_bind, bd_ok, bd_er, bd_bad, bnd_bd, ret_ap, bad_ap, ite_ap, List.map_cons, List.map_nil, List.length_cons, List.length_nil, List.cons_append, List.nil_append, List.replicate, List.getElem?_cons_zero, List.getElem?_cons_succ, List.set_cons_zero, List.set_cons_succ, if_true, if_false, Bool.true_eq_false, Bool.false_eq_true, Bool.not_true, Bool.not_false, ite_true, ite_false, ↓reduceIte, Nat.reduceSub, Nat.reduceAdd, big, Nat.reduceLeDiff, Nat.zero_le, decide_true, decide_false, eq_self, wp_bd, ap_kW, wp_ok, wp_er, lpQ_nx, lpQ_ct, lpQ_bk, lpQ_rt, x_alt2, kAlt_ok, kAlt_er, kAlt_bad, x_altF, x_callO, ap_co1, ap_co2, isC_ins, x_methK, ap_mk1, ap_mk2, x_kw, ap_kw1, ap_kw2, x_heard, wp_noEr, x_lc, ap_lc, x_app, ap_app1, Nat.reduceLT, Nat.reduceBEq, beq_self_eq_true, dBool, dAdd, dSub, dMul, dMod, dFdiv, dPow, dNeg, dLt, dLe, dGt, dGe, eqG_int, eqG_str, eqG_bl, xor_t, xor_f, dIsN, dNotN, dTru, dIx, dLen, dAbs, dInt, dStr, dMax2, dMin2, dMul8, dRep, dApp, h]
theorem e_over (ok : SOk n g L) (ok' : SOk n g' L') : ∃ b sp : Int, F_Stair_over [st n g L, st n g' L'] S = .ok (.tup [.int b, .int sp]) S ∧ (∃ p, 0 ≤ p ∧ p ≤ n ∧ b ≤ gap g n L g' L' p) ∧ g - g' ≤ b ∧ ∀ (a : Nat) x, L[a]? = some x → x < n → vAt g g' L' a x ≤ b := by
  have w : Wp (F_Stair_over [st n g L, st n g' L'] S) (fun d S' => S' = S ∧ ∃ b sp : Int, d = .tup [.int b, .int sp] ∧ (∃ p, 0 ≤ p ∧ p ≤ n ∧ b ≤ gap g n L g' L' p) ∧ g - g' ≤ b ∧ ∀ (a : Nat) x, L[a]? = some x → x < n → vAt g g' L' a x ≤ b) NoX := by
    unfold F_Stair_over
    rw [x_run (by rfl)]
    simp only [ap_f2, ap_cons, ap_cons2, ap_and, ap_or, ap_not, ap_if, ap_andV, ap_andV2, ap_orV, ap_orV2, ap_notV, ap_notV2, ap_ch1, ap_ch2, ap_ch3, ap_ch4, ap_lst, ap_tup, ap_lstM, ap_sl, ap_sl2, ap_ret, ap_drop, ap_set, ap_nx, ap_asg, ap_par, ap_par3, ap_r1, ap_r2, ap_si1, ap_si2, ap_si3, ap_sf1, ap_sf2, ap_for, ap_lcE, x_var, vK_some, x_c, x_f1, x_f2, x_nil, x_cons, x_and, x_or, x_not, x_if, x_andV, x_orV, x_notV, x_chain, x_lst, x_tup, x_lstM, x_sl, x_seq, sqK_nx, sqK_rt, sqK_bk, sqK_ct, x_ret, x_retN, x_drop, x_next, x_brk, x_cnt, x_set, x_asg, x_par, x_par3, x_raise1, x_raise2, x_setI, x_setF, endK_rt, endK_nx, x_for, x_bind, bd_ok, bd_er, bd_bad, bnd_bd, ret_ap, bad_ap, ite_ap, List.map_cons, List.map_nil, List.length_cons, List.length_nil, List.cons_append, List.nil_append, List.replicate, List.getElem?_cons_zero, List.getElem?_cons_succ, List.set_cons_zero, List.set_cons_succ, if_true, if_false, Bool.true_eq_false, Bool.false_eq_true, Bool.not_true, Bool.not_false, ite_true, ite_false, ↓reduceIte, Nat.reduceSub, Nat.reduceAdd, big, Nat.reduceLeDiff, Nat.zero_le, decide_true, decide_false, eq_self, wp_bd, ap_kW, wp_ok, wp_er, lpQ_nx, lpQ_ct, lpQ_bk, lpQ_rt, x_alt2, kAlt_ok, kAlt_er, kAlt_bad, x_altF, x_callO, ap_co1, ap_co2, isC_ins, x_methK, ap_mk1, ap_mk2, x_kw, ap_kw1, ap_kw2, x_heard, wp_noEr, x_lc, ap_lc, x_app, ap_app1, Nat.reduceLT, Nat.reduceBEq, beq_self_eq_true, dBool, dAdd, dSub, dMul, dMod, dFdiv, dPow, dNeg, dLt, dLe, dGt, dGe, eqG_int, eqG_str, eqG_bl, xor_t, xor_f, dIsN, dNotN, dTru, dIx, dLen, dAbs, dInt, dStr, dMax2, dMin2, dMul8, dRep, dApp, fl_base, fl_rises, dEnumT]
    refine wp_loop (fun j e S' => S' = S ∧ ∃ (b sp : Int) (x4 x5 x6 : Option D), e = [some (st n g L), some (st n g' L'), some (.int b), some (.int sp), x4, x5, x6, none] ∧ (∃ p, 0 ≤ p ∧ p ≤ n ∧ b ≤ gap g n L g' L' p) ∧ g - g' ≤ b ∧ ∀ (a : Nat) x, a < j → L[a]? = some x → x < n → vAt g g' L' a x ≤ b) ⟨rfl, _, _, _, _, _, rfl, ⟨0, by omega, by have := ok.p; omega, by unfold gap; rw [stv_zero ok.p ok.r, stv_zero ok.p ok'.r]; omega⟩, by omega, fun a x h => absurd h (Nat.not_lt_zero _)⟩ (fun j d e S' hj hI => ?_) fun e S' hI => ?_
    · obtain ⟨rfl, b, sp, x4, x5, x6, rfl, hb1, hb2, hb3⟩ := hI
      obtain ⟨x, hx, rfl⟩ : ∃ x, L[j]? = some x ∧ d = .tup [.int (j : Nat), .int x] := by
        rw [List.getElem?_map, List.getElem?_zipIdx, List.getElem?_map] at hj
        cases hk : L[j]? with
        | none => rw [hk] at hj; cases hj
        | some x =>
          rw [hk] at hj
          refine ⟨x, rfl, ?_⟩
          have := (Option.some.inj hj).symm
          simpa using this
      refine ⟨_, bind_tp2, ?_⟩
      have lc := lc_cnt (S := S') (p := .nm 7) (t := f1 dBool (f2 dLe (fVar 7) (fVar 5))) (env := [some (st n g L), some (st n g' L'), some (.int b), some (.int sp), some (.int (j : Nat)), some (.int x), x6, none]) (k := fun r => decide (r ≤ x)) (L := L') fun r _ => ⟨[some (st n g L), some (st n g' L'), some (.int b), some (.int sp), some (.int (j : Nat)), some (.int x), x6, some (.int r)], x_bind, by simp only [ap_f2, ap_cons, ap_cons2, ap_and, ap_or, ap_not, ap_if, ap_andV, ap_andV2, ap_orV, ap_orV2, ap_notV, ap_notV2, ap_ch1, ap_ch2, ap_ch3, ap_ch4, ap_lst, ap_tup, ap_lstM, ap_sl, ap_sl2, ap_ret, ap_drop, ap_set, ap_nx, ap_asg, ap_par, ap_par3, ap_r1, ap_r2, ap_si1, ap_si2, ap_si3, ap_sf1, ap_sf2, ap_for, ap_lcE, x_var, vK_some, x_c, x_f1, x_f2, x_nil, x_cons, x_and, x_or, x_not, x_if, x_andV, x_orV, x_notV, x_chain, x_lst, x_tup, x_lstM, x_sl, x_seq, sqK_nx, sqK_rt, sqK_bk, sqK_ct, x_ret, x_retN, x_drop, x_next, x_brk, x_cnt, x_set, x_asg, x_par, x_par3, x_raise1, x_raise2, x_setI, x_setF, endK_rt, endK_nx, x_for, x_bind, bd_ok, bd_er, bd_bad, bnd_bd, ret_ap, bad_ap, ite_ap, List.map_cons, List.map_nil, List.length_cons, List.length_nil, List.cons_append, List.nil_append, List.replicate, List.getElem?_cons_zero, List.getElem?_cons_succ, List.set_cons_zero, List.set_cons_succ, if_true, if_false, Bool.true_eq_false, Bool.false_eq_true, Bool.not_true, Bool.not_false, ite_true, ite_false, ↓reduceIte, Nat.reduceSub, Nat.reduceAdd, big, Nat.reduceLeDiff, Nat.zero_le, decide_true, decide_false, eq_self, wp_bd, ap_kW, wp_ok, wp_er, lpQ_nx, lpQ_ct, lpQ_bk, lpQ_rt, x_alt2, kAlt_ok, kAlt_er, kAlt_bad, x_altF, x_callO, ap_co1, ap_co2, isC_ins, x_methK, ap_mk1, ap_mk2, x_kw, ap_kw1, ap_kw2, x_heard, wp_noEr, x_lc, ap_lc, x_app, ap_app1, Nat.reduceLT, Nat.reduceBEq, beq_self_eq_true, dBool, dAdd, dSub, dMul, dMod, dFdiv, dPow, dNeg, dLt, dLe, dGt, dGe, eqG_int, eqG_str, eqG_bl, xor_t, xor_f, dIsN, dNotN, dTru, dIx, dLen, dAbs, dInt, dStr, dMax2, dMin2, dMul8, dRep, dApp]⟩
      have hl := ok'.hl
      have vle := v_le (g := g) (g' := g') ok.p ok.r ok'.r ok.s hx
      have hr := ok.r x (List.mem_of_getElem? hx)
      unfold L_Stair_over_0
      simp only [ap_f2, ap_cons, ap_cons2, ap_and, ap_or, ap_not, ap_if, ap_andV, ap_andV2, ap_orV, ap_orV2, ap_notV, ap_notV2, ap_ch1, ap_ch2, ap_ch3, ap_ch4, ap_lst, ap_tup, ap_lstM, ap_sl, ap_sl2, ap_ret, ap_drop, ap_set, ap_nx, ap_asg, ap_par, ap_par3, ap_r1, ap_r2, ap_si1, ap_si2, ap_si3, ap_sf1, ap_sf2, ap_for, ap_lcE, x_var, vK_some, x_c, x_f1, x_f2, x_nil, x_cons, x_and, x_or, x_not, x_if, x_andV, x_orV, x_notV, x_chain, x_lst, x_tup, x_lstM, x_sl, x_seq, sqK_nx, sqK_rt, sqK_bk, sqK_ct, x_ret, x_retN, x_drop, x_next, x_brk, x_cnt, x_set, x_asg, x_par, x_par3, x_raise1, x_raise2, x_setI, x_setF, endK_rt, endK_nx, x_for, x_bind, bd_ok, bd_er, bd_bad, bnd_bd, ret_ap, bad_ap, ite_ap, List.map_cons, List.map_nil, List.length_cons, List.length_nil, List.cons_append, List.nil_append, List.replicate, List.getElem?_cons_zero, List.getElem?_cons_succ, List.set_cons_zero, List.set_cons_succ, if_true, if_false, Bool.true_eq_false, Bool.false_eq_true, Bool.not_true, Bool.not_false, ite_true, ite_false, ↓reduceIte, Nat.reduceSub, Nat.reduceAdd, big, Nat.reduceLeDiff, Nat.zero_le, decide_true, decide_false, eq_self, wp_bd, ap_kW, wp_ok, wp_er, lpQ_nx, lpQ_ct, lpQ_bk, lpQ_rt, x_alt2, kAlt_ok, kAlt_er, kAlt_bad, x_altF, x_callO, ap_co1, ap_co2, isC_ins, x_methK, ap_mk1, ap_mk2, x_kw, ap_kw1, ap_kw2, x_heard, wp_noEr, x_lc, ap_lc, x_app, ap_app1, Nat.reduceLT, Nat.reduceBEq, beq_self_eq_true, dBool, dAdd, dSub, dMul, dMod, dFdiv, dPow, dNeg, dLt, dLe, dGt, dGe, eqG_int, eqG_str, eqG_bl, xor_t, xor_f, dIsN, dNotN, dTru, dIx, dLen, dAbs, dInt, dStr, dMax2, dMin2, dMul8, dRep, dApp, fl_base, fl_rises, fl_len, dItems, asSq, asT, asL, hl, noEr_ok lc, Pat.slots, wipe8, List.length_map, cle_filter]
      by_cases h1 : x < n
      · by_cases h2 : g + j + 1 - g' - cle L' x > b
        · simp only [h1, h2, ap_f2, ap_cons, ap_cons2, ap_and, ap_or, ap_not, ap_if, ap_andV, ap_andV2, ap_orV, ap_orV2, ap_notV, ap_notV2, ap_ch1, ap_ch2, ap_ch3, ap_ch4, ap_lst, ap_tup, ap_lstM, ap_sl, ap_sl2, ap_ret, ap_drop, ap_set, ap_nx, ap_asg, ap_par, ap_par3, ap_r1, ap_r2, ap_si1, ap_si2, ap_si3, ap_sf1, ap_sf2, ap_for, ap_lcE, x_var, vK_some, x_c, x_f1, x_f2, x_nil, x_cons, x_and, x_or, x_not, x_if, x_andV, x_orV, x_notV, x_chain, x_lst, x_tup, x_lstM, x_sl, x_seq, sqK_nx, sqK_rt, sqK_bk, sqK_ct, x_ret, x_retN, x_drop, x_next, x_brk, x_cnt, x_set, x_asg, x_par, x_par3, x_raise1, x_raise2, x_setI, x_setF, endK_rt, endK_nx, x_for, x_bind, bd_ok, bd_er, bd_bad, bnd_bd, ret_ap, bad_ap, ite_ap, List.map_cons, List.map_nil, List.length_cons, List.length_nil, List.cons_append, List.nil_append, List.replicate, List.getElem?_cons_zero, List.getElem?_cons_succ, List.set_cons_zero, List.set_cons_succ, if_true, if_false, Bool.true_eq_false, Bool.false_eq_true, Bool.not_true, Bool.not_false, ite_true, ite_false, ↓reduceIte, Nat.reduceSub, Nat.reduceAdd, big, Nat.reduceLeDiff, Nat.zero_le, decide_true, decide_false, eq_self, wp_bd, ap_kW, wp_ok, wp_er, lpQ_nx, lpQ_ct, lpQ_bk, lpQ_rt, x_alt2, kAlt_ok, kAlt_er, kAlt_bad, x_altF, x_callO, ap_co1, ap_co2, isC_ins, x_methK, ap_mk1, ap_mk2, x_kw, ap_kw1, ap_kw2, x_heard, wp_noEr, x_lc, ap_lc, x_app, ap_app1, Nat.reduceLT, Nat.reduceBEq, beq_self_eq_true, dBool, dAdd, dSub, dMul, dMod, dFdiv, dPow, dNeg, dLt, dLe, dGt, dGe, eqG_int, eqG_str, eqG_bl, xor_t, xor_f, dIsN, dNotN, dTru, dIx, dLen, dAbs, dInt, dStr, dMax2, dMin2, dMul8, dRep, dApp]
          refine ⟨trivial, _, _, _, _, _, rfl, ⟨x, by omega, hr.2, vle⟩, by omega, fun a y ha hy hn => ?_⟩
          by_cases e : a = j
          · subst e
            rw [hx] at hy
            cases hy
            exact Int.le_refl _
          · have := hb3 a y (by omega) hy hn
            unfold vAt at this ⊢
            omega
        · simp only [h1, h2, ap_f2, ap_cons, ap_cons2, ap_and, ap_or, ap_not, ap_if, ap_andV, ap_andV2, ap_orV, ap_orV2, ap_notV, ap_notV2, ap_ch1, ap_ch2, ap_ch3, ap_ch4, ap_lst, ap_tup, ap_lstM, ap_sl, ap_sl2, ap_ret, ap_drop, ap_set, ap_nx, ap_asg, ap_par, ap_par3, ap_r1, ap_r2, ap_si1, ap_si2, ap_si3, ap_sf1, ap_sf2, ap_for, ap_lcE, x_var, vK_some, x_c, x_f1, x_f2, x_nil, x_cons, x_and, x_or, x_not, x_if, x_andV, x_orV, x_notV, x_chain, x_lst, x_tup, x_lstM, x_sl, x_seq, sqK_nx, sqK_rt, sqK_bk, sqK_ct, x_ret, x_retN, x_drop, x_next, x_brk, x_cnt, x_set, x_asg, x_par, x_par3, x_raise1, x_raise2, x_setI, x_setF, endK_rt, endK_nx, x_for, x_bind, bd_ok, bd_er, bd_bad, bnd_bd, ret_ap, bad_ap, ite_ap, List.map_cons, List.map_nil, List.length_cons, List.length_nil, List.cons_append, List.nil_append, List.replicate, List.getElem?_cons_zero, List.getElem?_cons_succ, List.set_cons_zero, List.set_cons_succ, if_true, if_false, Bool.true_eq_false, Bool.false_eq_true, Bool.not_true, Bool.not_false, ite_true, ite_false, ↓reduceIte, Nat.reduceSub, Nat.reduceAdd, big, Nat.reduceLeDiff, Nat.zero_le, decide_true, decide_false, eq_self, wp_bd, ap_kW, wp_ok, wp_er, lpQ_nx, lpQ_ct, lpQ_bk, lpQ_rt, x_alt2, kAlt_ok, kAlt_er, kAlt_bad, x_altF, x_callO, ap_co1, ap_co2, isC_ins, x_methK, ap_mk1, ap_mk2, x_kw, ap_kw1, ap_kw2, x_heard, wp_noEr, x_lc, ap_lc, x_app, ap_app1, Nat.reduceLT, Nat.reduceBEq, beq_self_eq_true, dBool, dAdd, dSub, dMul, dMod, dFdiv, dPow, dNeg, dLt, dLe, dGt, dGe, eqG_int, eqG_str, eqG_bl, xor_t, xor_f, dIsN, dNotN, dTru, dIx, dLen, dAbs, dInt, dStr, dMax2, dMin2, dMul8, dRep, dApp]
          refine ⟨trivial, _, _, _, _, _, rfl, hb1, hb2, fun a y ha hy hn => ?_⟩
          by_cases e : a = j
          · subst e
            rw [hx] at hy
            cases hy
            unfold vAt
            omega
          · exact hb3 a y (by omega) hy hn
      · simp only [h1, ap_f2, ap_cons, ap_cons2, ap_and, ap_or, ap_not, ap_if, ap_andV, ap_andV2, ap_orV, ap_orV2, ap_notV, ap_notV2, ap_ch1, ap_ch2, ap_ch3, ap_ch4, ap_lst, ap_tup, ap_lstM, ap_sl, ap_sl2, ap_ret, ap_drop, ap_set, ap_nx, ap_asg, ap_par, ap_par3, ap_r1, ap_r2, ap_si1, ap_si2, ap_si3, ap_sf1, ap_sf2, ap_for, ap_lcE, x_var, vK_some, x_c, x_f1, x_f2, x_nil, x_cons, x_and, x_or, x_not, x_if, x_andV, x_orV, x_notV, x_chain, x_lst, x_tup, x_lstM, x_sl, x_seq, sqK_nx, sqK_rt, sqK_bk, sqK_ct, x_ret, x_retN, x_drop, x_next, x_brk, x_cnt, x_set, x_asg, x_par, x_par3, x_raise1, x_raise2, x_setI, x_setF, endK_rt, endK_nx, x_for, x_bind, bd_ok, bd_er, bd_bad, bnd_bd, ret_ap, bad_ap, ite_ap, List.map_cons, List.map_nil, List.length_cons, List.length_nil, List.cons_append, List.nil_append, List.replicate, List.getElem?_cons_zero, List.getElem?_cons_succ, List.set_cons_zero, List.set_cons_succ, if_true, if_false, Bool.true_eq_false, Bool.false_eq_true, Bool.not_true, Bool.not_false, ite_true, ite_false, ↓reduceIte, Nat.reduceSub, Nat.reduceAdd, big, Nat.reduceLeDiff, Nat.zero_le, decide_true, decide_false, eq_self, wp_bd, ap_kW, wp_ok, wp_er, lpQ_nx, lpQ_ct, lpQ_bk, lpQ_rt, x_alt2, kAlt_ok, kAlt_er, kAlt_bad, x_altF, x_callO, ap_co1, ap_co2, isC_ins, x_methK, ap_mk1, ap_mk2, x_kw, ap_kw1, ap_kw2, x_heard, wp_noEr, x_lc, ap_lc, x_app, ap_app1, Nat.reduceLT, Nat.reduceBEq, beq_self_eq_true, dBool, dAdd, dSub, dMul, dMod, dFdiv, dPow, dNeg, dLt, dLe, dGt, dGe, eqG_int, eqG_str, eqG_bl, xor_t, xor_f, dIsN, dNotN, dTru, dIx, dLen, dAbs, dInt, dStr, dMax2, dMin2, dMul8, dRep, dApp]
        refine ⟨trivial, _, _, _, _, _, rfl, hb1, hb2, fun a y ha hy hn => ?_⟩
        by_cases e : a = j
        · subst e
          rw [hx] at hy
          cases hy
          exact absurd hn h1
        · exact hb3 a y (by omega) hy hn
    · obtain ⟨rfl, b, sp, x4, x5, x6, rfl, hb1, hb2, hb3⟩ := hI
      simp only [ap_f2, ap_cons, ap_cons2, ap_and, ap_or, ap_not, ap_if, ap_andV, ap_andV2, ap_orV, ap_orV2, ap_notV, ap_notV2, ap_ch1, ap_ch2, ap_ch3, ap_ch4, ap_lst, ap_tup, ap_lstM, ap_sl, ap_sl2, ap_ret, ap_drop, ap_set, ap_nx, ap_asg, ap_par, ap_par3, ap_r1, ap_r2, ap_si1, ap_si2, ap_si3, ap_sf1, ap_sf2, ap_for, ap_lcE, x_var, vK_some, x_c, x_f1, x_f2, x_nil, x_cons, x_and, x_or, x_not, x_if, x_andV, x_orV, x_notV, x_chain, x_lst, x_tup, x_lstM, x_sl, x_seq, sqK_nx, sqK_rt, sqK_bk, sqK_ct, x_ret, x_retN, x_drop, x_next, x_brk, x_cnt, x_set, x_asg, x_par, x_par3, x_raise1, x_raise2, x_setI, x_setF, endK_rt, endK_nx, x_for, x_bind, bd_ok, bd_er, bd_bad, bnd_bd, ret_ap, bad_ap, ite_ap, List.map_cons, List.map_nil, List.length_cons, List.length_nil, List.cons_append, List.nil_append, List.replicate, List.getElem?_cons_zero, List.getElem?_cons_succ, List.set_cons_zero, List.set_cons_succ, if_true, if_false, Bool.true_eq_false, Bool.false_eq_true, Bool.not_true, Bool.not_false, ite_true, ite_false, ↓reduceIte, Nat.reduceSub, Nat.reduceAdd, big, Nat.reduceLeDiff, Nat.zero_le, decide_true, decide_false, eq_self, wp_bd, ap_kW, wp_ok, wp_er, lpQ_nx, lpQ_ct, lpQ_bk, lpQ_rt, x_alt2, kAlt_ok, kAlt_er, kAlt_bad, x_altF, x_callO, ap_co1, ap_co2, isC_ins, x_methK, ap_mk1, ap_mk2, x_kw, ap_kw1, ap_kw2, x_heard, wp_noEr, x_lc, ap_lc, x_app, ap_app1, Nat.reduceLT, Nat.reduceBEq, beq_self_eq_true, dBool, dAdd, dSub, dMul, dMod, dFdiv, dPow, dNeg, dLt, dLe, dGt, dGe, eqG_int, eqG_str, eqG_bl, xor_t, xor_f, dIsN, dNotN, dTru, dIx, dLen, dAbs, dInt, dStr, dMax2, dMin2, dMul8, dRep, dApp]
      refine ⟨trivial, b, sp, rfl, hb1, hb2, fun a x hx hn => hb3 a x ?_ hx hn⟩
      have := (List.getElem?_eq_some_iff.mp hx).1
      simpa using this
  obtain ⟨d, S', h1, rfl, b, sp, rfl, h2⟩ := w.ok
  exact ⟨b, sp, h1, h2⟩
end
end Ol

namespace Ol
open PySem L2 LamX
theorem eqvA_ints : ∀ a b : List Int, PyData.eqvAll (a.map PyData.int) (b.map PyData.int) = decide (a = b)
  | [], [] => rfl
  | [], _ :: _ => by simp [PyData.eqvAll]
  | _ :: _, [] => by simp [PyData.eqvAll]
  | x :: a, y :: b => by
    have ih := eqvA_ints a b
    simp only [List.map_cons, PyData.eqvAll, PyData.eqv, ih]
    by_cases h : x = y <;> by_cases h2 : a = b <;> simp [h, h2]
theorem lay_ints : ∀ a : List Int, PyData.canLayAll0 (a.map PyData.int) = true
  | [] => rfl
  | x :: a => by
    show (_ && PyData.canLayAll0 (a.map PyData.int)) = true
    rw [lay_ints a]
    rfl
theorem dep_ints : ∀ a : List Int, PyData.depthAll (a.map PyData.int) = 0
  | [] => rfl
  | x :: a => by
    show max (PyData.depth (.int x)) (PyData.depthAll (a.map PyData.int)) = 0
    rw [dep_ints a]
    rfl
section
variable {S : Store} {n g m n' g' c : Int} {L L' : List Int} {d : D}
def stP (n g : Int) (L : List Int) : List PyData := [.int n, .int g, .tuple (L.map .int), .int L.length]
theorem sh_st : SeqAt.shaped (.tuple (stP n g L)) = true := by
  have h1 := lay_ints L
  have h2 := dep_ints L
  unfold SeqAt.shaped stP
  simp [PyData.canLay0, PyData.canLayAll0, PyData.depth, PyData.depthAll, h1, h2]
theorem py_st : toPyL S [.int n, .int g, .tup (L.map .int), .int L.length] = some (stP n g L) := by
  simp only [toPyL, toPy, toPyL_ints, Option.map, stP]
theorem eqv_st : PyData.eqv (.tuple (stP n g L)) (.tuple (stP n' g' L')) = decide (n = n' ∧ g = g' ∧ L = L') := by
  unfold stP
  simp only [PyData.eqv, PyData.eqvAll, eqvA_ints, Bool.and_true]
  by_cases h1 : n = n' <;> by_cases h2 : g = g' <;> by_cases h3 : L = L' <;> simp [h1, h2, h3]
theorem e_seq : F_Stair_eq [st n g L, st n' g' L'] S = .ok (.bl (decide (n = n' ∧ g = g' ∧ L = L'))) S := by
  unfold F_Stair_eq
  refine (x_run (by rfl)).trans ?_
  simp only [ap_f2, ap_cons, ap_cons2, ap_and, ap_or, ap_not, ap_if, ap_andV, ap_andV2, ap_orV, ap_orV2, ap_notV, ap_notV2, ap_ch1, ap_ch2, ap_ch3, ap_ch4, ap_lst, ap_tup, ap_lstM, ap_sl, ap_sl2, ap_ret, ap_drop, ap_set, ap_nx, ap_asg, ap_par, ap_par3, ap_r1, ap_r2, ap_si1, ap_si2, ap_si3, ap_sf1, ap_sf2, ap_for, ap_lcE, x_var, vK_some, x_c, x_f1, x_f2, x_nil, x_cons, x_and, x_or, x_not, x_if, x_andV, x_orV, x_notV, x_chain, x_lst, x_tup, x_lstM, x_sl, x_seq, sqK_nx, sqK_rt, sqK_bk, sqK_ct, x_ret, x_retN, x_drop, x_next, x_brk, x_cnt, x_set, x_asg, x_par, x_par3, x_raise1, x_raise2, x_setI, x_setF, endK_rt, endK_nx, x_for, x_bind, bd_ok, bd_er, bd_bad, bnd_bd, ret_ap, bad_ap, ite_ap, List.map_cons, List.map_nil, List.length_cons, List.length_nil, List.cons_append, List.nil_append, List.replicate, List.getElem?_cons_zero, List.getElem?_cons_succ, List.set_cons_zero, List.set_cons_succ, if_true, if_false, Bool.true_eq_false, Bool.false_eq_true, Bool.not_true, Bool.not_false, ite_true, ite_false, ↓reduceIte, Nat.reduceSub, Nat.reduceAdd, big, Nat.reduceLeDiff, Nat.zero_le, decide_true, decide_false, eq_self, wp_bd, ap_kW, wp_ok, wp_er, lpQ_nx, lpQ_ct, lpQ_bk, lpQ_rt, x_alt2, kAlt_ok, kAlt_er, kAlt_bad, x_altF, x_callO, ap_co1, ap_co2, isC_ins, x_methK, ap_mk1, ap_mk2, x_kw, ap_kw1, ap_kw2, x_heard, wp_noEr, x_lc, ap_lc, x_app, ap_app1, Nat.reduceLT, Nat.reduceBEq, beq_self_eq_true, dBool, dAdd, dSub, dMul, dMod, dFdiv, dPow, dNeg, dLt, dLe, dGt, dGe, eqG_int, eqG_str, eqG_bl, xor_t, xor_f, dIsN, dNotN, dTru, dIx, dLen, dAbs, dInt, dStr, dMax2, dMin2, dMul8, dRep, dApp, isS, fl_len, fl_base, fl_rises, fl_step]
  have e := eqG_tup (n := false) (S := S) (py_st (n := n) (g := g) (L := L)) (py_st (n := n') (g := g') (L := L')) sh_st sh_st
  simp only [e, eqv_st, ap_f2, ap_cons, ap_cons2, ap_and, ap_or, ap_not, ap_if, ap_andV, ap_andV2, ap_orV, ap_orV2, ap_notV, ap_notV2, ap_ch1, ap_ch2, ap_ch3, ap_ch4, ap_lst, ap_tup, ap_lstM, ap_sl, ap_sl2, ap_ret, ap_drop, ap_set, ap_nx, ap_asg, ap_par, ap_par3, ap_r1, ap_r2, ap_si1, ap_si2, ap_si3, ap_sf1, ap_sf2, ap_for, ap_lcE, x_var, vK_some, x_c, x_f1, x_f2, x_nil, x_cons, x_and, x_or, x_not, x_if, x_andV, x_orV, x_notV, x_chain, x_lst, x_tup, x_lstM, x_sl, x_seq, sqK_nx, sqK_rt, sqK_bk, sqK_ct, x_ret, x_retN, x_drop, x_next, x_brk, x_cnt, x_set, x_asg, x_par, x_par3, x_raise1, x_raise2, x_setI, x_setF, endK_rt, endK_nx, x_for, x_bind, bd_ok, bd_er, bd_bad, bnd_bd, ret_ap, bad_ap, ite_ap, List.map_cons, List.map_nil, List.length_cons, List.length_nil, List.cons_append, List.nil_append, List.replicate, List.getElem?_cons_zero, List.getElem?_cons_succ, List.set_cons_zero, List.set_cons_succ, if_true, if_false, Bool.true_eq_false, Bool.false_eq_true, Bool.not_true, Bool.not_false, ite_true, ite_false, ↓reduceIte, Nat.reduceSub, Nat.reduceAdd, big, Nat.reduceLeDiff, Nat.zero_le, decide_true, decide_false, eq_self, wp_bd, ap_kW, wp_ok, wp_er, lpQ_nx, lpQ_ct, lpQ_bk, lpQ_rt, x_alt2, kAlt_ok, kAlt_er, kAlt_bad, x_altF, x_callO, ap_co1, ap_co2, isC_ins, x_methK, ap_mk1, ap_mk2, x_kw, ap_kw1, ap_kw2, x_heard, wp_noEr, x_lc, ap_lc, x_app, ap_app1, Nat.reduceLT, Nat.reduceBEq, beq_self_eq_true, Bool.false_xor]
theorem e_seqN (h : dIsi kOwn kErs kTb [d, .cls 39] S = .ok (.bl false) S) : F_Stair_eq [st n g L, d] S = .ok (.bl false) S := by
  unfold F_Stair_eq
  refine (x_run (by rfl)).trans ?_
  simp only [ap_f2, ap_cons, ap_cons2, ap_and, ap_or, ap_not, ap_if, ap_andV, ap_andV2, ap_orV, ap_orV2, ap_notV, ap_notV2, ap_ch1, ap_ch2, ap_ch3, ap_ch4, ap_lst, ap_tup, ap_lstM, ap_sl, ap_sl2, ap_ret, ap_drop, ap_set, ap_nx, ap_asg, ap_par, ap_par3, ap_r1, ap_r2, ap_si1, ap_si2, ap_si3, ap_sf1, ap_sf2, ap_for, ap_lcE, x_var, vK_some, x_c, x_f1, x_f2, x_nil, x_cons, x_and, x_or, x_not, x_if, x_andV, x_orV, x_notV, x_chain, x_lst, x_tup, x_lstM, x_sl, x_seq, sqK_nx, sqK_rt, sqK_bk, sqK_ct, x_ret, x_retN, x_drop, x_next, x_brk, x_cnt, x_set, x_asg, x_par, x_par3, x_raise1, x_raise2, x_setI, x_setF, endK_rt, endK_nx, x_for, x_bind, bd_ok, bd_er, bd_bad, bnd_bd, ret_ap, bad_ap, ite_ap, List.map_cons, List.map_nil, List.length_cons, List.length_nil, List.cons_append, List.nil_append, List.replicate, List.getElem?_cons_zero, List.getElem?_cons_succ, List.set_cons_zero, List.set_cons_succ, if_true, if_false, Bool.true_eq_false, Bool.false_eq_true, Bool.not_true, Bool.not_false, ite_true, ite_false, ↓reduceIte, Nat.reduceSub, Nat.reduceAdd, big, Nat.reduceLeDiff, Nat.zero_le, decide_true, decide_false, eq_self, wp_bd, ap_kW, wp_ok, wp_er, lpQ_nx, lpQ_ct, lpQ_bk, lpQ_rt, x_alt2, kAlt_ok, kAlt_er, kAlt_bad, x_altF, x_callO, ap_co1, ap_co2, isC_ins, x_methK, ap_mk1, ap_mk2, x_kw, ap_kw1, ap_kw2, x_heard, wp_noEr, x_lc, ap_lc, x_app, ap_app1, Nat.reduceLT, Nat.reduceBEq, beq_self_eq_true, dBool, dAdd, dSub, dMul, dMod, dFdiv, dPow, dNeg, dLt, dLe, dGt, dGe, eqG_int, eqG_str, eqG_bl, xor_t, xor_f, dIsN, dNotN, dTru, dIx, dLen, dAbs, dInt, dStr, dMax2, dMin2, dMul8, dRep, dApp, h]
theorem own_eq : dOwn 39 kOwn nfStair F_Stair_eq (st n g L) (st n' g' L') S = .ok (.bl (decide (n = n' ∧ g = g' ∧ L = L'))) S := by
  have e := e_seq (n := n) (g := g) (L := L) (n' := n') (g' := g') (L' := L') (S := S)
  unfold dOwn
  simp only [st, asI, tagOf] at e ⊢
  rw [if_pos (by decide)]
  exact e
theorem own_ne : dOwnB 39 kOwn nfStair F_Stair_eq true (st n g L) (st n' g' L') S = .ok (.bl (!decide (n = n' ∧ g = g' ∧ L = L'))) S := by
  have e := e_seq (n := n) (g := g) (L := L) (n' := n') (g' := g') (L' := L') (S := S)
  unfold dOwnB
  simp only [st, asI, tagOf] at e ⊢
  rw [if_pos (by decide), bnd_bd, e, bd_ok]
  simp only [ret_ap, Bool.true_xor]
/-- b is the greatest difference of two stairs -/
def Gr (g n : Int) (L : List Int) (g' : Int) (L' : List Int) (b : Int) : Prop := (∃ p, 0 ≤ p ∧ p ≤ n ∧ b ≤ gap g n L g' L' p) ∧ ∀ p, 0 ≤ p → p ≤ n → gap g n L g' L' p ≤ b
theorem ix0 {a b : D} : dIx (.tup [a, b]) (.int 0) S = .ok a S := rfl
theorem m_need {r : Env8} : fMeth "need_like" [(39, F_Stair_need_like)] (fVar 0) (fCons (fVar 1) fNil) (some (st n g L) :: some d :: r) S = F_Stair_need_like [st n g L, d] S := by
  unfold fMeth
  rw [bnd_bd, x_var]
  simp only [ap_f2, ap_cons, ap_cons2, ap_and, ap_or, ap_not, ap_if, ap_andV, ap_andV2, ap_orV, ap_orV2, ap_notV, ap_notV2, ap_ch1, ap_ch2, ap_ch3, ap_ch4, ap_lst, ap_tup, ap_lstM, ap_sl, ap_sl2, ap_ret, ap_drop, ap_set, ap_nx, ap_asg, ap_par, ap_par3, ap_r1, ap_r2, ap_si1, ap_si2, ap_si3, ap_sf1, ap_sf2, ap_for, ap_lcE, x_var, vK_some, x_c, x_f1, x_f2, x_nil, x_cons, x_and, x_or, x_not, x_if, x_andV, x_orV, x_notV, x_chain, x_lst, x_tup, x_lstM, x_sl, x_seq, sqK_nx, sqK_rt, sqK_bk, sqK_ct, x_ret, x_retN, x_drop, x_next, x_brk, x_cnt, x_set, x_asg, x_par, x_par3, x_raise1, x_raise2, x_setI, x_setF, endK_rt, endK_nx, x_for, x_bind, bd_ok, bd_er, bd_bad, bnd_bd, ret_ap, bad_ap, ite_ap, List.map_cons, List.map_nil, List.length_cons, List.length_nil, List.cons_append, List.nil_append, List.replicate, List.getElem?_cons_zero, List.getElem?_cons_succ, List.set_cons_zero, List.set_cons_succ, if_true, if_false, Bool.true_eq_false, Bool.false_eq_true, Bool.not_true, Bool.not_false, ite_true, ite_false, ↓reduceIte, Nat.reduceSub, Nat.reduceAdd, big, Nat.reduceLeDiff, Nat.zero_le, decide_true, decide_false, eq_self, wp_bd, ap_kW, wp_ok, wp_er, lpQ_nx, lpQ_ct, lpQ_bk, lpQ_rt, x_alt2, kAlt_ok, kAlt_er, kAlt_bad, x_altF, x_callO, ap_co1, ap_co2, isC_ins, x_methK, ap_mk1, ap_mk2, x_kw, ap_kw1, ap_kw2, x_heard, wp_noEr, x_lc, ap_lc, x_app, ap_app1, Nat.reduceLT, Nat.reduceBEq, beq_self_eq_true, app_get, app_set, putFD, lookF, lookC, str_inj, String.reduceEq, List.mem_cons, List.not_mem_nil, or_false, or_true, true_or, false_or, Nat.reduceEqDiff, and_self, true_and, and_true, Nat.reduceLT, dFld, dCon, asI, D.limF, D.lim, D.limL, Bool.and_true, Bool.true_and, fMeth, fMeth0, methOf, reduceCtorEq, Nat.zero_ne_one, Nat.one_ne_zero, st, stF]
theorem m_over {r : Env8} : fMeth "over" [(39, F_Stair_over)] (fVar 0) (fCons (fVar 1) fNil) (some (st n g L) :: some d :: r) S = F_Stair_over [st n g L, d] S := by
  unfold fMeth
  rw [bnd_bd, x_var]
  simp only [ap_f2, ap_cons, ap_cons2, ap_and, ap_or, ap_not, ap_if, ap_andV, ap_andV2, ap_orV, ap_orV2, ap_notV, ap_notV2, ap_ch1, ap_ch2, ap_ch3, ap_ch4, ap_lst, ap_tup, ap_lstM, ap_sl, ap_sl2, ap_ret, ap_drop, ap_set, ap_nx, ap_asg, ap_par, ap_par3, ap_r1, ap_r2, ap_si1, ap_si2, ap_si3, ap_sf1, ap_sf2, ap_for, ap_lcE, x_var, vK_some, x_c, x_f1, x_f2, x_nil, x_cons, x_and, x_or, x_not, x_if, x_andV, x_orV, x_notV, x_chain, x_lst, x_tup, x_lstM, x_sl, x_seq, sqK_nx, sqK_rt, sqK_bk, sqK_ct, x_ret, x_retN, x_drop, x_next, x_brk, x_cnt, x_set, x_asg, x_par, x_par3, x_raise1, x_raise2, x_setI, x_setF, endK_rt, endK_nx, x_for, x_bind, bd_ok, bd_er, bd_bad, bnd_bd, ret_ap, bad_ap, ite_ap, List.map_cons, List.map_nil, List.length_cons, List.length_nil, List.cons_append, List.nil_append, List.replicate, List.getElem?_cons_zero, List.getElem?_cons_succ, List.set_cons_zero, List.set_cons_succ, if_true, if_false, Bool.true_eq_false, Bool.false_eq_true, Bool.not_true, Bool.not_false, ite_true, ite_false, ↓reduceIte, Nat.reduceSub, Nat.reduceAdd, big, Nat.reduceLeDiff, Nat.zero_le, decide_true, decide_false, eq_self, wp_bd, ap_kW, wp_ok, wp_er, lpQ_nx, lpQ_ct, lpQ_bk, lpQ_rt, x_alt2, kAlt_ok, kAlt_er, kAlt_bad, x_altF, x_callO, ap_co1, ap_co2, isC_ins, x_methK, ap_mk1, ap_mk2, x_kw, ap_kw1, ap_kw2, x_heard, wp_noEr, x_lc, ap_lc, x_app, ap_app1, Nat.reduceLT, Nat.reduceBEq, beq_self_eq_true, app_get, app_set, putFD, lookF, lookC, str_inj, String.reduceEq, List.mem_cons, List.not_mem_nil, or_false, or_true, true_or, false_or, Nat.reduceEqDiff, and_self, true_and, and_true, Nat.reduceLT, dFld, dCon, asI, D.limF, D.lim, D.limL, Bool.and_true, Bool.true_and, fMeth, fMeth0, methOf, reduceCtorEq, Nat.zero_ne_one, Nat.one_ne_zero, st, stF]
theorem e_less (ok : SOk n g L) (ok' : SOk n g' L') (hk : (L.length : Int) ≤ L'.length) : ∃ b : Int, F_Stair_sub [st n g L, st n g' L'] S = .ok (.int b) S ∧ F_Stair_le [st n g L, st n g' L'] S = .ok (.bl (decide (b ≤ 0))) S ∧ Gr g n L g' L' b := by
  obtain ⟨b, sp, e, h1, h2, h3⟩ := e_over (S := S) ok ok'
  have en := e_need (n := n) (n' := n) (g := g) (L := L) (g' := g') (L' := L') (S := S) rfl
  refine ⟨b, ?_, ?_, h1, fun p p0 p1 => gap_le ok.p ok.r ok'.r ok.s hk h2 h3 p0 p1⟩
  · unfold F_Stair_sub
    refine (x_run (by rfl)).trans ?_
    have h : ((L.length : Int) > L'.length) = False := eq_false (by omega)
    simp only [ap_f2, ap_cons, ap_cons2, ap_and, ap_or, ap_not, ap_if, ap_andV, ap_andV2, ap_orV, ap_orV2, ap_notV, ap_notV2, ap_ch1, ap_ch2, ap_ch3, ap_ch4, ap_lst, ap_tup, ap_lstM, ap_sl, ap_sl2, ap_ret, ap_drop, ap_set, ap_nx, ap_asg, ap_par, ap_par3, ap_r1, ap_r2, ap_si1, ap_si2, ap_si3, ap_sf1, ap_sf2, ap_for, ap_lcE, x_var, vK_some, x_c, x_f1, x_f2, x_nil, x_cons, x_and, x_or, x_not, x_if, x_andV, x_orV, x_notV, x_chain, x_lst, x_tup, x_lstM, x_sl, x_seq, sqK_nx, sqK_rt, sqK_bk, sqK_ct, x_ret, x_retN, x_drop, x_next, x_brk, x_cnt, x_set, x_asg, x_par, x_par3, x_raise1, x_raise2, x_setI, x_setF, endK_rt, endK_nx, x_for, x_bind, bd_ok, bd_er, bd_bad, bnd_bd, ret_ap, bad_ap, ite_ap, List.map_cons, List.map_nil, List.length_cons, List.length_nil, List.cons_append, List.nil_append, List.replicate, List.getElem?_cons_zero, List.getElem?_cons_succ, List.set_cons_zero, List.set_cons_succ, if_true, if_false, Bool.true_eq_false, Bool.false_eq_true, Bool.not_true, Bool.not_false, ite_true, ite_false, ↓reduceIte, Nat.reduceSub, Nat.reduceAdd, big, Nat.reduceLeDiff, Nat.zero_le, decide_true, decide_false, eq_self, wp_bd, ap_kW, wp_ok, wp_er, lpQ_nx, lpQ_ct, lpQ_bk, lpQ_rt, x_alt2, kAlt_ok, kAlt_er, kAlt_bad, x_altF, x_callO, ap_co1, ap_co2, isC_ins, x_methK, ap_mk1, ap_mk2, x_kw, ap_kw1, ap_kw2, x_heard, wp_noEr, x_lc, ap_lc, x_app, ap_app1, Nat.reduceLT, Nat.reduceBEq, beq_self_eq_true, m_need, en, fl_step, dBool, dGt, h, m_over, e, dIx, asT, asL, asSq, ix0, at0, at1]
  · unfold F_Stair_le
    refine (x_run (by rfl)).trans ?_
    simp only [ap_f2, ap_cons, ap_cons2, ap_and, ap_or, ap_not, ap_if, ap_andV, ap_andV2, ap_orV, ap_orV2, ap_notV, ap_notV2, ap_ch1, ap_ch2, ap_ch3, ap_ch4, ap_lst, ap_tup, ap_lstM, ap_sl, ap_sl2, ap_ret, ap_drop, ap_set, ap_nx, ap_asg, ap_par, ap_par3, ap_r1, ap_r2, ap_si1, ap_si2, ap_si3, ap_sf1, ap_sf2, ap_for, ap_lcE, x_var, vK_some, x_c, x_f1, x_f2, x_nil, x_cons, x_and, x_or, x_not, x_if, x_andV, x_orV, x_notV, x_chain, x_lst, x_tup, x_lstM, x_sl, x_seq, sqK_nx, sqK_rt, sqK_bk, sqK_ct, x_ret, x_retN, x_drop, x_next, x_brk, x_cnt, x_set, x_asg, x_par, x_par3, x_raise1, x_raise2, x_setI, x_setF, endK_rt, endK_nx, x_for, x_bind, bd_ok, bd_er, bd_bad, bnd_bd, ret_ap, bad_ap, ite_ap, List.map_cons, List.map_nil, List.length_cons, List.length_nil, List.cons_append, List.nil_append, List.replicate, List.getElem?_cons_zero, List.getElem?_cons_succ, List.set_cons_zero, List.set_cons_succ, if_true, if_false, Bool.true_eq_false, Bool.false_eq_true, Bool.not_true, Bool.not_false, ite_true, ite_false, ↓reduceIte, Nat.reduceSub, Nat.reduceAdd, big, Nat.reduceLeDiff, Nat.zero_le, decide_true, decide_false, eq_self, wp_bd, ap_kW, wp_ok, wp_er, lpQ_nx, lpQ_ct, lpQ_bk, lpQ_rt, x_alt2, kAlt_ok, kAlt_er, kAlt_bad, x_altF, x_callO, ap_co1, ap_co2, isC_ins, x_methK, ap_mk1, ap_mk2, x_kw, ap_kw1, ap_kw2, x_heard, wp_noEr, x_lc, ap_lc, x_app, ap_app1, Nat.reduceLT, Nat.reduceBEq, beq_self_eq_true, m_need, en, fl_step, dBool, dLe, hk, m_over, e, dIx, asT, asL, asSq, ix0, at0, at1]
theorem e_more (hk : (L'.length : Int) < L.length) : F_Stair_sub [st n g L, st n g' L'] S = .ok .non S ∧ F_Stair_le [st n g L, st n g' L'] S = .ok (.bl false) S := by
  have en := e_need (n := n) (n' := n) (g := g) (L := L) (g' := g') (L' := L') (S := S) rfl
  constructor
  · unfold F_Stair_sub
    refine (x_run (by rfl)).trans ?_
    have h : ((L.length : Int) > L'.length) = True := eq_true (by omega)
    simp only [ap_f2, ap_cons, ap_cons2, ap_and, ap_or, ap_not, ap_if, ap_andV, ap_andV2, ap_orV, ap_orV2, ap_notV, ap_notV2, ap_ch1, ap_ch2, ap_ch3, ap_ch4, ap_lst, ap_tup, ap_lstM, ap_sl, ap_sl2, ap_ret, ap_drop, ap_set, ap_nx, ap_asg, ap_par, ap_par3, ap_r1, ap_r2, ap_si1, ap_si2, ap_si3, ap_sf1, ap_sf2, ap_for, ap_lcE, x_var, vK_some, x_c, x_f1, x_f2, x_nil, x_cons, x_and, x_or, x_not, x_if, x_andV, x_orV, x_notV, x_chain, x_lst, x_tup, x_lstM, x_sl, x_seq, sqK_nx, sqK_rt, sqK_bk, sqK_ct, x_ret, x_retN, x_drop, x_next, x_brk, x_cnt, x_set, x_asg, x_par, x_par3, x_raise1, x_raise2, x_setI, x_setF, endK_rt, endK_nx, x_for, x_bind, bd_ok, bd_er, bd_bad, bnd_bd, ret_ap, bad_ap, ite_ap, List.map_cons, List.map_nil, List.length_cons, List.length_nil, List.cons_append, List.nil_append, List.replicate, List.getElem?_cons_zero, List.getElem?_cons_succ, List.set_cons_zero, List.set_cons_succ, if_true, if_false, Bool.true_eq_false, Bool.false_eq_true, Bool.not_true, Bool.not_false, ite_true, ite_false, ↓reduceIte, Nat.reduceSub, Nat.reduceAdd, big, Nat.reduceLeDiff, Nat.zero_le, decide_true, decide_false, eq_self, wp_bd, ap_kW, wp_ok, wp_er, lpQ_nx, lpQ_ct, lpQ_bk, lpQ_rt, x_alt2, kAlt_ok, kAlt_er, kAlt_bad, x_altF, x_callO, ap_co1, ap_co2, isC_ins, x_methK, ap_mk1, ap_mk2, x_kw, ap_kw1, ap_kw2, x_heard, wp_noEr, x_lc, ap_lc, x_app, ap_app1, Nat.reduceLT, Nat.reduceBEq, beq_self_eq_true, m_need, en, fl_step, dBool, dGt, h]
  · unfold F_Stair_le
    refine (x_run (by rfl)).trans ?_
    have h : ((L.length : Int) ≤ L'.length) = False := eq_false (by omega)
    simp only [ap_f2, ap_cons, ap_cons2, ap_and, ap_or, ap_not, ap_if, ap_andV, ap_andV2, ap_orV, ap_orV2, ap_notV, ap_notV2, ap_ch1, ap_ch2, ap_ch3, ap_ch4, ap_lst, ap_tup, ap_lstM, ap_sl, ap_sl2, ap_ret, ap_drop, ap_set, ap_nx, ap_asg, ap_par, ap_par3, ap_r1, ap_r2, ap_si1, ap_si2, ap_si3, ap_sf1, ap_sf2, ap_for, ap_lcE, x_var, vK_some, x_c, x_f1, x_f2, x_nil, x_cons, x_and, x_or, x_not, x_if, x_andV, x_orV, x_notV, x_chain, x_lst, x_tup, x_lstM, x_sl, x_seq, sqK_nx, sqK_rt, sqK_bk, sqK_ct, x_ret, x_retN, x_drop, x_next, x_brk, x_cnt, x_set, x_asg, x_par, x_par3, x_raise1, x_raise2, x_setI, x_setF, endK_rt, endK_nx, x_for, x_bind, bd_ok, bd_er, bd_bad, bnd_bd, ret_ap, bad_ap, ite_ap, List.map_cons, List.map_nil, List.length_cons, List.length_nil, List.cons_append, List.nil_append, List.replicate, List.getElem?_cons_zero, List.getElem?_cons_succ, List.set_cons_zero, List.set_cons_succ, if_true, if_false, Bool.true_eq_false, Bool.false_eq_true, Bool.not_true, Bool.not_false, ite_true, ite_false, ↓reduceIte, Nat.reduceSub, Nat.reduceAdd, big, Nat.reduceLeDiff, Nat.zero_le, decide_true, decide_false, eq_self, wp_bd, ap_kW, wp_ok, wp_er, lpQ_nx, lpQ_ct, lpQ_bk, lpQ_rt, x_alt2, kAlt_ok, kAlt_er, kAlt_bad, x_altF, x_callO, ap_co1, ap_co2, isC_ins, x_methK, ap_mk1, ap_mk2, x_kw, ap_kw1, ap_kw2, x_heard, wp_noEr, x_lc, ap_lc, x_app, ap_app1, Nat.reduceLT, Nat.reduceBEq, beq_self_eq_true, m_need, en, fl_step, dBool, dLe, h]
theorem own_sub : dOwnS 39 F_Stair_sub (st n g L) (st n' g' L') S = F_Stair_sub [st n g L, st n' g' L'] S := rfl
theorem own_le : dOwn 39 kOwn nfStair F_Stair_le (st n g L) (st n' g' L') S = F_Stair_le [st n g L, st n' g' L'] S := by
  unfold dOwn
  simp only [st, asI, tagOf]
  rw [if_pos (by decide)]
end
end Ol

namespace Ol
open PySem L2 LamX
section
variable {S : Store} {X : XQ} {p : Pat} {env : Env8}
theorem wp_lc0 {t : Env8 → M Bool} {fe : Env8 → M D} {Q : List D → Store → Prop} {ds : List D} (I : Nat → List D → Store → Prop) (h0 : I 0 [] S) (hs : ∀ j d acc S, ds[j]? = some d → I j acc S → ∃ e1, bindM p d env S = .ok e1 S ∧ Wp (t e1 S) (fun b S1 => if b = true then Wp (fe e1 S1) (fun y S2 => I (j + 1) (acc ++ [y]) S2) NoX else I (j + 1) acc S1) NoX)
    (hd : ∀ ys S, I ds.length ys S → Q ys S) : Wp (loopC p t fe env ds S) Q NoX :=
  wp_lcA I (k := 0) h0 (fun j d acc S h q => by rw [Nat.zero_add] at q ⊢; exact hs j d acc S h q) (by rw [Nat.zero_add]; exact fun ys S q => hd ys S (by simpa using q))
theorem rg1 {c : Int} (h0 : 0 ≤ c) (h : c ≤ 1000) : dRange1 [.int c] S = .ok ((List.range c.toNat).map fun (i : Nat) => .int (0 + (i : Int))) S := by
  unfold dRange1
  dsimp only
  rw [if_pos (by omega)]
  rfl
theorem small_lt {n : Int} (h : 1 ≤ n ∧ n ≤ 100) : n.natAbs < 2 ^ 250 := Nat.lt_of_lt_of_le (show n.natAbs < 128 by omega) (by decide)
theorem ap_fYes {env : Env8} : fYes env S = .ok true S := rfl
end
section
variable {S R : Store} {n g m n' g' c : Int} {L L' : List Int} {d : D} {P : O} {k : Nat} {Q : D → Store → Prop} {X : XQ}
theorem w_parts (pn : Pn P (k + 10)) (hn : 1 ≤ n ∧ n ≤ 100) (h : ∀ g L P', SOk n g L → -1 ≤ g → g ≤ 3 → Pn P' k → Q (pt g L) (P' :: R)) : Wp (F_parts [.loc 0, .int n] (P :: R)) Q X := by
  unfold F_parts
  rw [x_run (by rfl)]
  simp only [ap_f2, ap_cons, ap_cons2, ap_and, ap_or, ap_not, ap_if, ap_andV, ap_andV2, ap_orV, ap_orV2, ap_notV, ap_notV2, ap_ch1, ap_ch2, ap_ch3, ap_ch4, ap_lst, ap_tup, ap_lstM, ap_sl, ap_sl2, ap_ret, ap_drop, ap_set, ap_nx, ap_asg, ap_par, ap_par3, ap_r1, ap_r2, ap_si1, ap_si2, ap_si3, ap_sf1, ap_sf2, ap_for, ap_lcE, x_var, vK_some, x_c, x_f1, x_f2, x_nil, x_cons, x_and, x_or, x_not, x_if, x_andV, x_orV, x_notV, x_chain, x_lst, x_tup, x_lstM, x_sl, x_seq, sqK_nx, sqK_rt, sqK_bk, sqK_ct, x_ret, x_retN, x_drop, x_next, x_brk, x_cnt, x_set, x_asg, x_par, x_par3, x_raise1, x_raise2, x_setI, x_setF, endK_rt, endK_nx, x_for, x_bind, bd_ok, bd_er, bd_bad, bnd_bd, ret_ap, bad_ap, ite_ap, List.map_cons, List.map_nil, List.length_cons, List.length_nil, List.cons_append, List.nil_append, List.replicate, List.getElem?_cons_zero, List.getElem?_cons_succ, List.set_cons_zero, List.set_cons_succ, if_true, if_false, Bool.true_eq_false, Bool.false_eq_true, Bool.not_true, Bool.not_false, ite_true, ite_false, ↓reduceIte, Nat.reduceSub, Nat.reduceAdd, big, Nat.reduceLeDiff, Nat.zero_le, decide_true, decide_false, eq_self, wp_bd, ap_kW, wp_ok, wp_er, lpQ_nx, lpQ_ct, lpQ_bk, lpQ_rt, x_alt2, kAlt_ok, kAlt_er, kAlt_bad, x_altF, x_callO, ap_co1, ap_co2, isC_ins, x_methK, ap_mk1, ap_mk2, x_kw, ap_kw1, ap_kw2, x_heard, wp_noEr, x_lc, ap_lc, x_app, ap_app1, Nat.reduceLT, Nat.reduceBEq, beq_self_eq_true, dBool, dAdd, dSub, dMul, dMod, dFdiv, dPow, dNeg, dLt, dLe, dGt, dGe, eqG_int, eqG_str, eqG_bl, xor_t, xor_f, dIsN, dNotN, dTru, dIx, dLen, dAbs, dInt, dStr, dMax2, dMin2, dMul8, dRep, dApp]
  refine w_pick (m := k + 9) pn (by simp) (by simp) fun v P1 pn1 hv => ?_
  have hx : ∃ c : Int, v = .int c ∧ 0 ≤ c ∧ c ≤ 6 := by
    simp only [List.mem_cons, List.not_mem_nil, or_false] at hv
    rcases hv with rfl | rfl | rfl | rfl | rfl
    · exact ⟨0, rfl, by decide, by decide⟩
    · exact ⟨1, rfl, by decide, by decide⟩
    · exact ⟨2, rfl, by decide, by decide⟩
    · exact ⟨3, rfl, by decide, by decide⟩
    · exact ⟨6, rfl, by decide, by decide⟩
  obtain ⟨ci, rfl, hc0, hc⟩ := hx
  have hr := fun S : Store => rg1 (S := S) hc0 (show ci ≤ 1000 by omega)
  generalize hcc : ci.toNat = c at hr
  have hc : c ≤ 6 := by omega
  have hl : (c ≤ 1000000) = True := eq_true (by omega)
  simp only [ap_f2, ap_cons, ap_cons2, ap_and, ap_or, ap_not, ap_if, ap_andV, ap_andV2, ap_orV, ap_orV2, ap_notV, ap_notV2, ap_ch1, ap_ch2, ap_ch3, ap_ch4, ap_lst, ap_tup, ap_lstM, ap_sl, ap_sl2, ap_ret, ap_drop, ap_set, ap_nx, ap_asg, ap_par, ap_par3, ap_r1, ap_r2, ap_si1, ap_si2, ap_si3, ap_sf1, ap_sf2, ap_for, ap_lcE, x_var, vK_some, x_c, x_f1, x_f2, x_nil, x_cons, x_and, x_or, x_not, x_if, x_andV, x_orV, x_notV, x_chain, x_lst, x_tup, x_lstM, x_sl, x_seq, sqK_nx, sqK_rt, sqK_bk, sqK_ct, x_ret, x_retN, x_drop, x_next, x_brk, x_cnt, x_set, x_asg, x_par, x_par3, x_raise1, x_raise2, x_setI, x_setF, endK_rt, endK_nx, x_for, x_bind, bd_ok, bd_er, bd_bad, bnd_bd, ret_ap, bad_ap, ite_ap, List.map_cons, List.map_nil, List.length_cons, List.length_nil, List.cons_append, List.nil_append, List.replicate, List.getElem?_cons_zero, List.getElem?_cons_succ, List.set_cons_zero, List.set_cons_succ, if_true, if_false, Bool.true_eq_false, Bool.false_eq_true, Bool.not_true, Bool.not_false, ite_true, ite_false, ↓reduceIte, Nat.reduceSub, Nat.reduceAdd, big, Nat.reduceLeDiff, Nat.zero_le, decide_true, decide_false, eq_self, wp_bd, ap_kW, wp_ok, wp_er, lpQ_nx, lpQ_ct, lpQ_bk, lpQ_rt, x_alt2, kAlt_ok, kAlt_er, kAlt_bad, x_altF, x_callO, ap_co1, ap_co2, isC_ins, x_methK, ap_mk1, ap_mk2, x_kw, ap_kw1, ap_kw2, x_heard, wp_noEr, x_lc, ap_lc, x_app, ap_app1, Nat.reduceLT, Nat.reduceBEq, beq_self_eq_true, dBool, dAdd, dSub, dMul, dMod, dFdiv, dPow, dNeg, dLt, dLe, dGt, dGe, eqG_int, eqG_str, eqG_bl, xor_t, xor_f, dIsN, dNotN, dTru, dIx, dLen, dAbs, dInt, dStr, dMax2, dMin2, dMul8, dRep, dApp, hr, List.length_map, List.length_range, hl, Pat.slots, wipe8]
  refine wp_lc0 (fun j acc S => ∃ P', S = P' :: R ∧ Pn P' (k + 1 + (c - j)) ∧ j ≤ c ∧ ∃ ns : List Int, acc = ns.map .int ∧ ns.length = j ∧ Rs n ns) ⟨P1, rfl, pn1.le (by omega), by omega, [], rfl, rfl, fun r hr => by cases hr⟩ (fun j d acc S hj hI => ?_) fun ys S hI => ?_
  · obtain ⟨P', rfl, pn', hj', ns, rfl, hlen, hns⟩ := hI
    have hjc : j < c := by
      have := (List.getElem?_eq_some_iff.mp hj).1
      simpa using this
    refine ⟨_, x_bind, ?_⟩
    simp only [ap_f2, ap_cons, ap_cons2, ap_and, ap_or, ap_not, ap_if, ap_andV, ap_andV2, ap_orV, ap_orV2, ap_notV, ap_notV2, ap_ch1, ap_ch2, ap_ch3, ap_ch4, ap_lst, ap_tup, ap_lstM, ap_sl, ap_sl2, ap_ret, ap_drop, ap_set, ap_nx, ap_asg, ap_par, ap_par3, ap_r1, ap_r2, ap_si1, ap_si2, ap_si3, ap_sf1, ap_sf2, ap_for, ap_lcE, x_var, vK_some, x_c, x_f1, x_f2, x_nil, x_cons, x_and, x_or, x_not, x_if, x_andV, x_orV, x_notV, x_chain, x_lst, x_tup, x_lstM, x_sl, x_seq, sqK_nx, sqK_rt, sqK_bk, sqK_ct, x_ret, x_retN, x_drop, x_next, x_brk, x_cnt, x_set, x_asg, x_par, x_par3, x_raise1, x_raise2, x_setI, x_setF, endK_rt, endK_nx, x_for, x_bind, bd_ok, bd_er, bd_bad, bnd_bd, ret_ap, bad_ap, ite_ap, List.map_cons, List.map_nil, List.length_cons, List.length_nil, List.cons_append, List.nil_append, List.replicate, List.getElem?_cons_zero, List.getElem?_cons_succ, List.set_cons_zero, List.set_cons_succ, if_true, if_false, Bool.true_eq_false, Bool.false_eq_true, Bool.not_true, Bool.not_false, ite_true, ite_false, ↓reduceIte, Nat.reduceSub, Nat.reduceAdd, big, Nat.reduceLeDiff, Nat.zero_le, decide_true, decide_false, eq_self, wp_bd, ap_kW, wp_ok, wp_er, lpQ_nx, lpQ_ct, lpQ_bk, lpQ_rt, x_alt2, kAlt_ok, kAlt_er, kAlt_bad, x_altF, x_callO, ap_co1, ap_co2, isC_ins, x_methK, ap_mk1, ap_mk2, x_kw, ap_kw1, ap_kw2, x_heard, wp_noEr, x_lc, ap_lc, x_app, ap_app1, Nat.reduceLT, Nat.reduceBEq, beq_self_eq_true, dBool, dAdd, dSub, dMul, dMod, dFdiv, dPow, dNeg, dLt, dLe, dGt, dGe, eqG_int, eqG_str, eqG_bl, xor_t, xor_f, dIsN, dNotN, dTru, dIx, dLen, dAbs, dInt, dStr, dMax2, dMin2, dMul8, dRep, dApp, ap_fYes]
    refine w_draw (m := k + 1 + (c - (j + 1))) (pn'.le (by omega)) (by omega) (small_lt hn) fun d P2 pn2 d0 d1 => ?_
    simp only [ap_f2, ap_cons, ap_cons2, ap_and, ap_or, ap_not, ap_if, ap_andV, ap_andV2, ap_orV, ap_orV2, ap_notV, ap_notV2, ap_ch1, ap_ch2, ap_ch3, ap_ch4, ap_lst, ap_tup, ap_lstM, ap_sl, ap_sl2, ap_ret, ap_drop, ap_set, ap_nx, ap_asg, ap_par, ap_par3, ap_r1, ap_r2, ap_si1, ap_si2, ap_si3, ap_sf1, ap_sf2, ap_for, ap_lcE, x_var, vK_some, x_c, x_f1, x_f2, x_nil, x_cons, x_and, x_or, x_not, x_if, x_andV, x_orV, x_notV, x_chain, x_lst, x_tup, x_lstM, x_sl, x_seq, sqK_nx, sqK_rt, sqK_bk, sqK_ct, x_ret, x_retN, x_drop, x_next, x_brk, x_cnt, x_set, x_asg, x_par, x_par3, x_raise1, x_raise2, x_setI, x_setF, endK_rt, endK_nx, x_for, x_bind, bd_ok, bd_er, bd_bad, bnd_bd, ret_ap, bad_ap, ite_ap, List.map_cons, List.map_nil, List.length_cons, List.length_nil, List.cons_append, List.nil_append, List.replicate, List.getElem?_cons_zero, List.getElem?_cons_succ, List.set_cons_zero, List.set_cons_succ, if_true, if_false, Bool.true_eq_false, Bool.false_eq_true, Bool.not_true, Bool.not_false, ite_true, ite_false, ↓reduceIte, Nat.reduceSub, Nat.reduceAdd, big, Nat.reduceLeDiff, Nat.zero_le, decide_true, decide_false, eq_self, wp_bd, ap_kW, wp_ok, wp_er, lpQ_nx, lpQ_ct, lpQ_bk, lpQ_rt, x_alt2, kAlt_ok, kAlt_er, kAlt_bad, x_altF, x_callO, ap_co1, ap_co2, isC_ins, x_methK, ap_mk1, ap_mk2, x_kw, ap_kw1, ap_kw2, x_heard, wp_noEr, x_lc, ap_lc, x_app, ap_app1, Nat.reduceLT, Nat.reduceBEq, beq_self_eq_true, dBool, dAdd, dSub, dMul, dMod, dFdiv, dPow, dNeg, dLt, dLe, dGt, dGe, eqG_int, eqG_str, eqG_bl, xor_t, xor_f, dIsN, dNotN, dTru, dIx, dLen, dAbs, dInt, dStr, dMax2, dMin2, dMul8, dRep, dApp]
    exact ⟨P2, rfl, pn2, hjc, ns ++ [1 + d], by simp, by simp [hlen], fun r hr => by
      rcases List.mem_append.mp hr with h | h
      · exact hns r h
      · simp only [List.mem_cons, List.not_mem_nil, or_false] at h
        omega⟩
  · obtain ⟨P', rfl, pn', hj', ns, rfl, hlen, hns⟩ := hI
    simp only [List.length_map, List.length_range] at pn' hlen
    have hi : intsAt (P' :: R) [.lst (ns.map .int)] = some ns := by
      unfold intsAt
      simp only [asL, Option.bind, intsOf_map]
    simp only [ap_f2, ap_cons, ap_cons2, ap_and, ap_or, ap_not, ap_if, ap_andV, ap_andV2, ap_orV, ap_orV2, ap_notV, ap_notV2, ap_ch1, ap_ch2, ap_ch3, ap_ch4, ap_lst, ap_tup, ap_lstM, ap_sl, ap_sl2, ap_ret, ap_drop, ap_set, ap_nx, ap_asg, ap_par, ap_par3, ap_r1, ap_r2, ap_si1, ap_si2, ap_si3, ap_sf1, ap_sf2, ap_for, ap_lcE, x_var, vK_some, x_c, x_f1, x_f2, x_nil, x_cons, x_and, x_or, x_not, x_if, x_andV, x_orV, x_notV, x_chain, x_lst, x_tup, x_lstM, x_sl, x_seq, sqK_nx, sqK_rt, sqK_bk, sqK_ct, x_ret, x_retN, x_drop, x_next, x_brk, x_cnt, x_set, x_asg, x_par, x_par3, x_raise1, x_raise2, x_setI, x_setF, endK_rt, endK_nx, x_for, x_bind, bd_ok, bd_er, bd_bad, bnd_bd, ret_ap, bad_ap, ite_ap, List.map_cons, List.map_nil, List.length_cons, List.length_nil, List.cons_append, List.nil_append, List.replicate, List.getElem?_cons_zero, List.getElem?_cons_succ, List.set_cons_zero, List.set_cons_succ, if_true, if_false, Bool.true_eq_false, Bool.false_eq_true, Bool.not_true, Bool.not_false, ite_true, ite_false, ↓reduceIte, Nat.reduceSub, Nat.reduceAdd, big, Nat.reduceLeDiff, Nat.zero_le, decide_true, decide_false, eq_self, wp_bd, ap_kW, wp_ok, wp_er, lpQ_nx, lpQ_ct, lpQ_bk, lpQ_rt, x_alt2, kAlt_ok, kAlt_er, kAlt_bad, x_altF, x_callO, ap_co1, ap_co2, isC_ins, x_methK, ap_mk1, ap_mk2, x_kw, ap_kw1, ap_kw2, x_heard, wp_noEr, x_lc, ap_lc, x_app, ap_app1, Nat.reduceLT, Nat.reduceBEq, beq_self_eq_true, dBool, dAdd, dSub, dMul, dMod, dFdiv, dPow, dNeg, dLt, dLe, dGt, dGe, eqG_int, eqG_str, eqG_bl, xor_t, xor_f, dIsN, dNotN, dTru, dIx, dLen, dAbs, dInt, dStr, dMax2, dMin2, dMul8, dRep, dApp, dSortedL, hi]
    refine w_draw (m := k) (pn'.le (by omega)) (by decide) (by decide) fun d P2 pn2 d0 d1 => ?_
    simp only [ap_f2, ap_cons, ap_cons2, ap_and, ap_or, ap_not, ap_if, ap_andV, ap_andV2, ap_orV, ap_orV2, ap_notV, ap_notV2, ap_ch1, ap_ch2, ap_ch3, ap_ch4, ap_lst, ap_tup, ap_lstM, ap_sl, ap_sl2, ap_ret, ap_drop, ap_set, ap_nx, ap_asg, ap_par, ap_par3, ap_r1, ap_r2, ap_si1, ap_si2, ap_si3, ap_sf1, ap_sf2, ap_for, ap_lcE, x_var, vK_some, x_c, x_f1, x_f2, x_nil, x_cons, x_and, x_or, x_not, x_if, x_andV, x_orV, x_notV, x_chain, x_lst, x_tup, x_lstM, x_sl, x_seq, sqK_nx, sqK_rt, sqK_bk, sqK_ct, x_ret, x_retN, x_drop, x_next, x_brk, x_cnt, x_set, x_asg, x_par, x_par3, x_raise1, x_raise2, x_setI, x_setF, endK_rt, endK_nx, x_for, x_bind, bd_ok, bd_er, bd_bad, bnd_bd, ret_ap, bad_ap, ite_ap, List.map_cons, List.map_nil, List.length_cons, List.length_nil, List.cons_append, List.nil_append, List.replicate, List.getElem?_cons_zero, List.getElem?_cons_succ, List.set_cons_zero, List.set_cons_succ, if_true, if_false, Bool.true_eq_false, Bool.false_eq_true, Bool.not_true, Bool.not_false, ite_true, ite_false, ↓reduceIte, Nat.reduceSub, Nat.reduceAdd, big, Nat.reduceLeDiff, Nat.zero_le, decide_true, decide_false, eq_self, wp_bd, ap_kW, wp_ok, wp_er, lpQ_nx, lpQ_ct, lpQ_bk, lpQ_rt, x_alt2, kAlt_ok, kAlt_er, kAlt_bad, x_altF, x_callO, ap_co1, ap_co2, isC_ins, x_methK, ap_mk1, ap_mk2, x_kw, ap_kw1, ap_kw2, x_heard, wp_noEr, x_lc, ap_lc, x_app, ap_app1, Nat.reduceLT, Nat.reduceBEq, beq_self_eq_true, dBool, dAdd, dSub, dMul, dMod, dFdiv, dPow, dNeg, dLt, dLe, dGt, dGe, eqG_int, eqG_str, eqG_bl, xor_t, xor_f, dIsN, dNotN, dTru, dIx, dLen, dAbs, dInt, dStr, dMax2, dMin2, dMul8, dRep, dApp]
    have pm := sortI_perm ns
    exact h (d - 1) (sortI ns) P2 ⟨hn, by omega, by rw [pm.length_eq]; omega, fun r hr => hns r (pm.mem_iff.mp hr), sortI_sorted ns⟩ (by omega) (by omega) pn2
end
end Ol

namespace Ol
open PySem L2 LamX
section
variable {S R : Store} {n g m n' g' c : Int} {L L' : List Int} {d : D} {P : O} {k : Nat} {Q : D → Store → Prop} {X : XQ}
theorem r_int {i : Int} (h : i.natAbs < 1000) : ∃ z, dRepr [.int i] S = .ok (.str z) S := ⟨_, e_repr (p := .int i) rfl (Sh.int (Nat.lt_of_lt_of_le h (by decide))) (by decide) (by decide)⟩
theorem r_non : ∃ z, dRepr [.non] S = .ok (.str z) S := ⟨_, e_repr (p := .none) rfl Sh.none (by decide) (by decide)⟩
theorem r_bl {b : Bool} : ∃ z, dRepr [.bl b] S = .ok (.str z) S := ⟨_, e_repr (p := .bool b) rfl (Sh.bool b) (by decide) (by decide)⟩
theorem r_bl2 {a b : Bool} : ∃ z, dRepr [.lst [.bl a, .bl b]] S = .ok (.str z) S := by
  refine ⟨_, e_repr (p := .list [.bool a, .bool b]) (n := 2 * 5 + 2 * 2 + 3) (by simp [pyOf, toPy, toPyL]) (Sh.list (n := 5) (k := 0) fun d hd => ?_) (by decide) (by decide)⟩
  simp only [List.mem_cons, List.not_mem_nil, or_false] at hd
  rcases hd with rfl | rfl <;> exact Sh.bool _
theorem sh_pt : SeqAt.shaped (.tuple [.int g, .list (L.map .int)]) = true := by
  have h1 := lay_ints L
  have h2 := dep_ints L
  unfold SeqAt.shaped
  simp [PyData.canLay0, PyData.canLayAll0, PyData.depth, PyData.depthAll, h1, h2]
theorem py_pt : toPyL S [.int g, .lst (L.map .int)] = some [.int g, .list (L.map .int)] := by simp only [toPyL, toPy, toPyL_ints, Option.map]
theorem eq_pt : dEqG false (pt g L) (pt g' L') S = .ok (.bl (decide (g = g' ∧ L = L'))) S := by
  unfold pt
  rw [eqG_tup py_pt py_pt sh_pt sh_pt]
  simp only [PyData.eqv, PyData.eqvAll, eqvA_ints, Bool.and_true, Bool.false_xor]
  by_cases h2 : g = g' <;> by_cases h3 : L = L' <;> simp [h2, h3]
def gaps (g n : Int) (L : List Int) (g' : Int) (L' : List Int) : List Int := (List.range (n + 1).toNat).map fun (i : Nat) => gap g n L g' L' (0 + (i : Int))
theorem maxI_gr {b : Int} (hn : 0 < n) (h : Gr g n L g' L' b) : maxI (gaps g n L g' L') = b := by
  have hne : gaps g n L g' L' ≠ [] := by
    intro h
    have := congrArg List.length h
    simp [gaps] at this
    omega
  obtain ⟨h1, h2⟩ := maxI_spec hne
  obtain ⟨⟨p, p0, p1, hp⟩, hall⟩ := h
  have a : maxI (gaps g n L g' L') ≤ b := by
    obtain ⟨i, hi, e⟩ := List.mem_map.mp h1
    rw [← e]
    have := List.mem_range.mp hi
    exact hall _ (by omega) (by omega)
  have c := h2 (gap g n L g' L' p) (List.mem_map.mpr ⟨p.toNat, List.mem_range.mpr (by omega), by rw [show (0 + ((p.toNat : Nat) : Int)) = p by omega]⟩)
  omega
theorem na_small {b : Int} (h1 : -20 ≤ b) (h2 : b ≤ 26) : b.natAbs < 200 := by omega
theorem gap_hi {p : Int} (ok : SOk n g L) (ok' : SOk n g' L') (p0 : 0 ≤ p) (p1 : p ≤ n) : gap g n L g' L' p ≤ 26 := by
  have e1 := stv_in (g := g) ok.p ok.r p0 p1
  have e2 := stv_in (g := g') ok'.p ok'.r p0 p1
  have h1 := cle_le L p
  have h2 := cle_nonneg L' p
  have h3 := ok.l
  have h4 := ok.b.2
  have h5 := ok'.b.1
  unfold gap
  omega
theorem gr1 {b : Int} (ok : SOk n g L) (ok' : SOk n g' L') (h : Gr g n L g' L' b) : b ≤ 26 := by
  obtain ⟨⟨p, p0, p1, hp⟩, hall⟩ := h
  exact Int.le_trans hp (gap_hi ok ok' p0 p1)
theorem gr2 (ok : SOk n g L) (ok' : SOk n g' L') : gap g n L g' L' 0 = g - g' := by
  unfold gap
  rw [stv_zero ok.p ok.r, stv_zero ok.p ok'.r]
theorem gr3 {b : Int} (ok : SOk n g L) (ok' : SOk n g' L') (h0 : g - g' ≤ b) : -20 ≤ b := by
  have h4 := ok.b.1
  have h5 := ok'.b.2
  omega
theorem gr4 {b : Int} (ok : SOk n g L) (ok' : SOk n g' L') (h : Gr g n L g' L' b) : g - g' ≤ b := (gr2 ok ok') ▸ h.2 0 (Int.le_refl _) (Int.le_of_lt ok.p)
theorem gr_small {b : Int} (ok : SOk n g L) (ok' : SOk n g' L') (h : Gr g n L g' L' b) : b.natAbs < 200 := na_small (gr3 ok ok' (gr4 ok ok' h)) (gr1 ok ok' h)
theorem lc_mapI {p : Pat} {fe : Env8 → M D} {env : Env8} {f : Nat → Int} {h : Int → Int} {N : Nat} (H : ∀ i, i < N → ∃ e, bindM p (.int (f i)) env S = .ok e S ∧ fe e S = .ok (.int (h (f i))) S) : loopC p fYes fe env ((List.range N).map fun i => .int (f i)) S = .ok (((List.range N).map fun i => h (f i)).map .int) S := by
  rw [lc_map8 (g := fun d => match d with | .int i => .int (h i) | d => d) fun d hd => ?_]
  · rw [List.map_map, List.map_map]
    rfl
  · obtain ⟨i, hi, rfl⟩ := List.mem_map.mp hd
    exact H i (List.mem_range.mp hi)
theorem e_gap {env : Env8} {q : Int} (ok : SOk n g L) (ok' : SOk n g' L') (q0 : 0 ≤ q) (q1 : q ≤ 1000) (h0 : env[0]? = some (some (.int n))) (h1 : env[1]? = some (some (pt g L))) (h2 : env[2]? = some (some (pt g' L'))) (hl : 8 < env.length) : ∃ e, bindM (.nm 8) (.int q) env S = .ok e S ∧ (f2 dSub (f1 F_value (fCons (fVar 1) (fCons (fVar 0) (fCons (fVar 8) fNil)))) (f1 F_value (fCons (fVar 2) (fCons (fVar 0) (fCons (fVar 8) fNil))))) e S = .ok (.int (gap g n L g' L' q)) S := by
  refine ⟨_, x_bind, ?_⟩
  have e0 : (env.set 8 (some (.int q)))[0]? = some (some (.int n)) := by rw [List.getElem?_set_ne (by decide)]; exact h0
  have e1 : (env.set 8 (some (.int q)))[1]? = some (some (pt g L)) := by rw [List.getElem?_set_ne (by decide)]; exact h1
  have e2 : (env.set 8 (some (.int q)))[2]? = some (some (pt g' L')) := by rw [List.getElem?_set_ne (by decide)]; exact h2
  have e8 : (env.set 8 (some (.int q)))[8]? = some (some (.int q)) := by rw [List.getElem?_set_self hl]
  have v1 := e_value (S := S) ok q0 q1
  have v2 := e_value (S := S) ok' q0 q1
  simp only [x_f2, x_f1, x_cons, x_nil, x_var, e0, e1, e2, e8, vK_some, bd_ok, ap_cons, ap_cons2, ap_f2, v1, v2, dSub, ret_ap]
  rfl
theorem lc_gaps {env : Env8} {N : Nat} (ok : SOk n g L) (ok' : SOk n g' L') (hN : N ≤ 1000) (h0 : env[0]? = some (some (.int n))) (h1 : env[1]? = some (some (pt g L))) (h2 : env[2]? = some (some (pt g' L'))) (hl : 8 < env.length) : loopC (.nm 8) fYes (f2 dSub (f1 F_value (fCons (fVar 1) (fCons (fVar 0) (fCons (fVar 8) fNil)))) (f1 F_value (fCons (fVar 2) (fCons (fVar 0) (fCons (fVar 8) fNil))))) env ((List.range N).map fun (i : Nat) => .int (0 + (i : Int))) S = .ok (((List.range N).map fun (i : Nat) => gap g n L g' L' (0 + (i : Int))).map .int) S :=
  lc_mapI (f := fun i => 0 + (i : Int)) (h := gap g n L g' L') fun i hi => e_gap ok ok' (by omega) (by omega) h0 h1 h2 hl
theorem lc_ints {env : Env8} {ns : List Int} {i : Nat} (hi : i < env.length) : loopC (.nm i) fYes (f1 dInt (fCons (fVar i) fNil)) env (ns.map .int) S = .ok (ns.map .int) S := by
  rw [lc_map8 (g := id) fun d hd => ?_]
  · rw [List.map_id]
  · obtain ⟨x, hx, rfl⟩ := List.mem_map.mp hd
    refine ⟨_, x_bind, ?_⟩
    have e8 : (env.set i (some (.int x)))[i]? = some (some (.int x)) := by rw [List.getElem?_set_self hi]
    simp only [x_f1, x_cons, x_nil, x_var, e8, vK_some, bd_ok, ap_cons, ap_cons2, dInt, ret_ap]
    rfl
theorem e_max {ns : List Int} (h : ns ≠ []) : dMaxL [.lst (ns.map .int)] S = .ok (.int (maxI ns)) S := by
  unfold dMaxL intsAt
  simp only [asL, Option.bind, intsOf_map]
  rw [if_neg h]
theorem w_two (ok : SOk n g L) (ok' : SOk n g' L') (hS : S.all (O.lim S.length) = true) : F_two_right [.int n, pt g L, pt g' L'] S = .ok (.bl true) S := by
  unfold F_two_right
  refine (x_run (by rfl)).trans ?_
  have m1 := e_made (n := n) (g := g) (L := L) hS
  have m2 := e_made (n := n) (g := g') (L := L') hS
  have hr := rg1 (S := S) (c := n + 1) (by have := ok.a; omega) (by have := ok.a; omega)
  have hl : ((n + 1).toNat ≤ 1000000) = True := eq_true (by have := ok.a; omega)
  have l1 := fun (x3 x4 x5 x9 : Option D) => lc_gaps (S := S) (N := (n + 1).toNat) (env := [some (.int n), some (pt g L), some (pt g' L'), x3, x4, x5, some (st n g L), some (st n g' L'), none, x9]) ok ok' (by have := ok.a; omega) rfl rfl rfl (by simp)
  have l2 := fun (x4 x5 x8 : Option D) => lc_ints (S := S) (ns := gaps g n L g' L') (i := 9) (env := [some (.int n), some (pt g L), some (pt g' L'), some (.lst ((gaps g n L g' L').map .int)), x4, x5, some (st n g L), some (st n g' L'), x8, none]) (by simp)
  have ix1 : ∀ S, dIx (pt g L) (.int 1) S = .ok (.lst (L.map .int)) S := fun _ => rfl
  have ix2 : ∀ S, dIx (pt g' L') (.int 1) S = .ok (.lst (L'.map .int)) S := fun _ => rfl
  have gl : ((gaps g n L g' L').length ≤ 1000000) = True := eq_true (by unfold gaps; rw [List.length_map, List.length_range]; have := ok.a; omega)
  have gd : (List.range (n + 1).toNat).map (fun (i : Nat) => gap g n L g' L' (0 + (i : Int))) = gaps g n L g' L' := rfl
  have gne : gaps g n L g' L' ≠ [] := by
    intro h
    have := congrArg List.length h
    simp [gaps] at this
    have := ok.a
    omega
  have mx := e_max (S := S) gne
  have eqp := eq_pt (g := g) (L := L) (g' := g') (L' := L') (S := S)
  obtain ⟨z5, r5⟩ := r_bl2 (S := S) (a := decide (g = g' ∧ L = L')) (b := !decide (g = g' ∧ L = L'))
  by_cases hk : (L.length : Int) ≤ L'.length
  · obtain ⟨b, s1, s2, gr⟩ := e_less (S := S) ok ok' hk
    rw [maxI_gr ok.p gr] at mx
    obtain ⟨z1, r1⟩ := r_int (S := S) (Nat.lt_trans (gr_small ok ok' gr) (by decide))
    obtain ⟨z2, r2⟩ := r_bl (S := S) (b := decide (b ≤ 0))
    simp only [ap_f2, ap_cons, ap_cons2, ap_and, ap_or, ap_not, ap_if, ap_andV, ap_andV2, ap_orV, ap_orV2, ap_notV, ap_notV2, ap_ch1, ap_ch2, ap_ch3, ap_ch4, ap_lst, ap_tup, ap_lstM, ap_sl, ap_sl2, ap_ret, ap_drop, ap_set, ap_nx, ap_asg, ap_par, ap_par3, ap_r1, ap_r2, ap_si1, ap_si2, ap_si3, ap_sf1, ap_sf2, ap_for, ap_lcE, x_var, vK_some, x_c, x_f1, x_f2, x_nil, x_cons, x_and, x_or, x_not, x_if, x_andV, x_orV, x_notV, x_chain, x_lst, x_tup, x_lstM, x_sl, x_seq, sqK_nx, sqK_rt, sqK_bk, sqK_ct, x_ret, x_retN, x_drop, x_next, x_brk, x_cnt, x_set, x_asg, x_par, x_par3, x_raise1, x_raise2, x_setI, x_setF, endK_rt, endK_nx, x_for, x_bind, bd_ok, bd_er, bd_bad, bnd_bd, ret_ap, bad_ap, ite_ap, List.map_cons, List.map_nil, List.length_cons, List.length_nil, List.cons_append, List.nil_append, List.replicate, List.getElem?_cons_zero, List.getElem?_cons_succ, List.set_cons_zero, List.set_cons_succ, if_true, if_false, Bool.true_eq_false, Bool.false_eq_true, Bool.not_true, Bool.not_false, ite_true, ite_false, ↓reduceIte, Nat.reduceSub, Nat.reduceAdd, big, Nat.reduceLeDiff, Nat.zero_le, decide_true, decide_false, eq_self, wp_bd, ap_kW, wp_ok, wp_er, lpQ_nx, lpQ_ct, lpQ_bk, lpQ_rt, x_alt2, kAlt_ok, kAlt_er, kAlt_bad, x_altF, x_callO, ap_co1, ap_co2, isC_ins, x_methK, ap_mk1, ap_mk2, x_kw, ap_kw1, ap_kw2, x_heard, wp_noEr, x_lc, ap_lc, x_app, ap_app1, Nat.reduceLT, Nat.reduceBEq, beq_self_eq_true, dBool, dAdd, dSub, dMul, dMod, dFdiv, dPow, dNeg, dLt, dLe, dGt, dGe, eqG_int, eqG_str, eqG_bl, xor_t, xor_f, dIsN, dNotN, dTru, dLen, dAbs, dInt, dStr, dMax2, dMin2, dMul8, dRep, dApp, m1, m2, hr, hl, l1, Pat.slots, wipe8, List.length_map, List.length_range, noEr_ok (l1 _ _ _ _), gd, ix1, ix2, asL, hk, dItems, asSq, asT, gl, noEr_ok (l2 _ _ _), mx, own_sub, own_le, s1, s2, r1, r2, eqp, own_eq, own_ne, true_and, r5]
  · obtain ⟨s1, s2⟩ := e_more (S := S) (n := n) (g := g) (g' := g') (show (L'.length : Int) < L.length by omega)
    obtain ⟨z1, r1⟩ := r_non (S := S)
    obtain ⟨z2, r2⟩ := r_bl (S := S) (b := false)
    simp only [ap_f2, ap_cons, ap_cons2, ap_and, ap_or, ap_not, ap_if, ap_andV, ap_andV2, ap_orV, ap_orV2, ap_notV, ap_notV2, ap_ch1, ap_ch2, ap_ch3, ap_ch4, ap_lst, ap_tup, ap_lstM, ap_sl, ap_sl2, ap_ret, ap_drop, ap_set, ap_nx, ap_asg, ap_par, ap_par3, ap_r1, ap_r2, ap_si1, ap_si2, ap_si3, ap_sf1, ap_sf2, ap_for, ap_lcE, x_var, vK_some, x_c, x_f1, x_f2, x_nil, x_cons, x_and, x_or, x_not, x_if, x_andV, x_orV, x_notV, x_chain, x_lst, x_tup, x_lstM, x_sl, x_seq, sqK_nx, sqK_rt, sqK_bk, sqK_ct, x_ret, x_retN, x_drop, x_next, x_brk, x_cnt, x_set, x_asg, x_par, x_par3, x_raise1, x_raise2, x_setI, x_setF, endK_rt, endK_nx, x_for, x_bind, bd_ok, bd_er, bd_bad, bnd_bd, ret_ap, bad_ap, ite_ap, List.map_cons, List.map_nil, List.length_cons, List.length_nil, List.cons_append, List.nil_append, List.replicate, List.getElem?_cons_zero, List.getElem?_cons_succ, List.set_cons_zero, List.set_cons_succ, if_true, if_false, Bool.true_eq_false, Bool.false_eq_true, Bool.not_true, Bool.not_false, ite_true, ite_false, ↓reduceIte, Nat.reduceSub, Nat.reduceAdd, big, Nat.reduceLeDiff, Nat.zero_le, decide_true, decide_false, eq_self, wp_bd, ap_kW, wp_ok, wp_er, lpQ_nx, lpQ_ct, lpQ_bk, lpQ_rt, x_alt2, kAlt_ok, kAlt_er, kAlt_bad, x_altF, x_callO, ap_co1, ap_co2, isC_ins, x_methK, ap_mk1, ap_mk2, x_kw, ap_kw1, ap_kw2, x_heard, wp_noEr, x_lc, ap_lc, x_app, ap_app1, Nat.reduceLT, Nat.reduceBEq, beq_self_eq_true, dBool, dAdd, dSub, dMul, dMod, dFdiv, dPow, dNeg, dLt, dLe, dGt, dGe, eqG_int, eqG_str, eqG_bl, xor_t, xor_f, dIsN, dNotN, dTru, dLen, dAbs, dInt, dStr, dMax2, dMin2, dMul8, dRep, dApp, m1, m2, hr, hl, l1, Pat.slots, wipe8, List.length_map, List.length_range, noEr_ok (l1 _ _ _ _), gd, ix1, ix2, asL, hk, dItems, asSq, asT, gl, noEr_ok (l2 _ _ _), mx, own_sub, own_le, s1, s2, r1, r2, eqp, own_eq, own_ne, true_and, r5]
end
end Ol

namespace Ol
open PySem L2 LamX
section
variable {S R : Store} {n g m n' g' c kk : Int} {L L' : List Int} {d : D} {P : O} {k : Nat} {Q : D → Store → Prop} {X : XQ}
theorem c_st {i : Nat} {fa : Env8 → M D} {env : Env8} (h : env[i]? = some (some (st n g L))) : fCallO 39 F_Stair_call (fVar i) (fCons fa fNil) env S = bd (fa env S) fun v S' => F_Stair_call [st n g L, v] S' := by
  rw [x_callO, x_var, h, vK_some, bd_ok]
  have hc : isC 39 S (st n g L) = true := rfl
  rw [ap_co1, if_pos hc, x_cons]
  cases e : fa env S with
  | bad => rfl
  | er c fs S1 => rfl
  | ok v S1 =>
    have hc1 : isC 39 S1 (st n g L) = true := rfl
    simp only [bd_ok, ap_cons, ap_cons2, x_nil, ap_co2, hc1, if_true, ret_ap]
theorem m_lp {i : Nat} {fa : Env8 → M D} {env : Env8} (h : env[i]? = some (some (st n g L))) : fMeth "longest_pause" [(39, F_Stair_longest_pause)] (fVar i) (fCons fa fNil) env S = bd (fa env S) fun v S' => F_Stair_longest_pause [st n g L, v] S' := by
  unfold fMeth
  rw [bnd_bd, x_var, h, vK_some, bd_ok]
  simp only [st, stF, app_get, app_set, putFD, lookF, lookC, str_inj, String.reduceEq, List.mem_cons, List.not_mem_nil, or_false, or_true, true_or, false_or, Nat.reduceEqDiff, and_self, true_and, and_true, Nat.reduceLT, dFld, dCon, asI, D.limF, D.lim, D.limL, Bool.and_true, Bool.true_and, fMeth, fMeth0, methOf, reduceCtorEq, Nat.zero_ne_one, Nat.one_ne_zero, bnd_bd]
  cases e : fa env S with
  | bad => simp [x_cons, e, bd_bad]
  | er c fs S1 => simp [x_cons, e, bd_er]
  | ok v S1 => simp only [x_cons, e, bd_ok, ap_cons, ap_cons2, x_nil, app_get, app_set, putFD, lookF, lookC, str_inj, String.reduceEq, List.mem_cons, List.not_mem_nil, or_false, or_true, true_or, false_or, Nat.reduceEqDiff, and_self, true_and, and_true, Nat.reduceLT, dFld, dCon, asI, D.limF, D.lim, D.limL, Bool.and_true, Bool.true_and, fMeth, fMeth0, methOf, reduceCtorEq, Nat.zero_ne_one, Nat.one_ne_zero, ite_true, if_true, ↓reduceIte, bnd_bd, ret_ap]
theorem m_lpK {i : Nat} {fa : Env8 → M D} {env : Env8} (h : env[i]? = some (some (st n g L))) : fMethK "longest_pause" 39 1 [0] F_Stair_longest_pause (fVar i) (fCons fa fNil) env S = bd (fa env S) fun v S' => F_Stair_longest_pause [st n g L, v] S' := by
  rw [x_methK, x_var, h, vK_some, bd_ok, st, ap_mk1, if_pos ⟨rfl, rfl⟩]
  cases e : fa env S with
  | bad => simp [x_cons, e, bd_bad]
  | er c fs S1 => simp [x_cons, e, bd_er]
  | ok v S1 =>
    simp only [x_cons, e, bd_ok, ap_cons, ap_cons2, x_nil, ap_mk2, List.length_cons, List.length_nil, if_true, ret_ap, ↓reduceIte]
    rfl
/-- the values of two days -/
def vals (g n : Int) (L : List Int) : List Int := (List.range (2 * n + 2).toNat).map fun (i : Nat) => stv g n L (0 + (i : Int))
theorem stv_hi {p : Int} (ok : SOk n g L) (p0 : 0 ≤ p) (p1 : p ≤ 3 * n) : (stv g n L p).natAbs < 200 := by
  have h1 := stv_mono (g := g) (L := L) ok.p p0
  have h2 := stv_mono (g := g) (L := L) ok.p p1
  rw [stv_zero ok.p ok.r] at h1
  have h3 := sts_at ok.p 3 0 (Int.le_refl _) (Int.le_of_lt ok.p) ok.r
  have h4 := cle_le L 0
  have h5 := ok.l
  have h6 := ok.b
  have h7 : stv g n L (3 * n) = g + (3 * L.length + cle L 0) := by
    unfold stv
    rw [← h3, Int.add_zero]
  omega
theorem r_vals (ok : SOk n g L) : ∃ z, dRepr [.lst ((vals g n L).map .int)] S = .ok (.str z) S := by
  refine ⟨_, e_reprInts (fun i hi => ?_) ?_⟩
  · obtain ⟨j, hj, rfl⟩ := List.mem_map.mp hi
    have := List.mem_range.mp hj
    exact Nat.lt_of_lt_of_le (stv_hi ok (by omega) (by have := ok.a; omega)) (by decide)
  · unfold vals
    rw [List.length_map, List.length_range]
    have := ok.a
    omega
theorem at_vals {q : Int} (q0 : 0 ≤ q) (q1 : q < 2 * n + 2) : dIx (.lst ((vals g n L).map .int)) (.int q) S = .ok (.int (stv g n L q)) S := by
  have h : (vals g n L)[q.toNat]? = some (stv g n L q) := by
    unfold vals
    rw [List.getElem?_map, List.getElem?_range (by omega)]
    show some (stv g n L (0 + ((q.toNat : Nat) : Int))) = _
    rw [show (0 + ((q.toNat : Nat) : Int)) = q by omega]
  unfold dIx
  simp only [asSq, asT, asL, at_intsL q0 h]
theorem e_val {env : Env8} {q : Int} (ok : SOk n g L) (q0 : 0 ≤ q) (q1 : q ≤ 1000) (h1 : env[1]? = some (some (.int n))) (h2 : env[2]? = some (some (pt g L))) (hl : 12 < env.length) : ∃ e, bindM (.nm 12) (.int q) env S = .ok e S ∧ (f1 F_value (fCons (fVar 2) (fCons (fVar 1) (fCons (fVar 12) fNil)))) e S = .ok (.int (stv g n L q)) S := by
  refine ⟨_, x_bind, ?_⟩
  have e1 : (env.set 12 (some (.int q)))[1]? = some (some (.int n)) := by rw [List.getElem?_set_ne (by decide)]; exact h1
  have e2 : (env.set 12 (some (.int q)))[2]? = some (some (pt g L)) := by rw [List.getElem?_set_ne (by decide)]; exact h2
  have e8 : (env.set 12 (some (.int q)))[12]? = some (some (.int q)) := by rw [List.getElem?_set_self hl]
  have v1 := e_value (S := S) ok q0 q1
  simp only [x_f2, x_f1, x_cons, x_nil, x_var, e1, e2, e8, vK_some, bd_ok, ap_cons, ap_cons2, v1]
theorem e_cal {env : Env8} {q : Int} (ok : SOk n g L) (q0 : 0 ≤ q) (h8 : env[8]? = some (some (st n g L))) (hl : 12 < env.length) : ∃ e, bindM (.nm 12) (.int q) env S = .ok e S ∧ (fCallO 39 F_Stair_call (fVar 8) (fCons (fVar 12) fNil)) e S = .ok (.int (stv g n L q)) S := by
  refine ⟨_, x_bind, ?_⟩
  have e8 : (env.set 12 (some (.int q)))[8]? = some (some (st n g L)) := by rw [List.getElem?_set_ne (by decide)]; exact h8
  have e12 : (env.set 12 (some (.int q)))[12]? = some (some (.int q)) := by rw [List.getElem?_set_self hl]
  rw [c_st e8]
  simp only [x_var, e12, vK_some, bd_ok, e_call ok q0]
theorem lc_vals {env : Env8} {N : Nat} (ok : SOk n g L) (hN : N ≤ 1000) (h1 : env[1]? = some (some (.int n))) (h2 : env[2]? = some (some (pt g L))) (hl : 12 < env.length) : loopC (.nm 12) fYes (f1 F_value (fCons (fVar 2) (fCons (fVar 1) (fCons (fVar 12) fNil)))) env ((List.range N).map fun (i : Nat) => .int (0 + (i : Int))) S = .ok (((List.range N).map fun (i : Nat) => stv g n L (0 + (i : Int))).map .int) S :=
  lc_mapI (f := fun i => 0 + (i : Int)) (h := stv g n L) fun i hi => e_val ok (by omega) (by omega) h1 h2 hl
theorem lc_cals {env : Env8} {N : Nat} (ok : SOk n g L) (h8 : env[8]? = some (some (st n g L))) (hl : 12 < env.length) : loopC (.nm 12) fYes (fCallO 39 F_Stair_call (fVar 8) (fCons (fVar 12) fNil)) env ((List.range N).map fun (i : Nat) => .int (0 + (i : Int))) S = .ok (((List.range N).map fun (i : Nat) => stv g n L (0 + (i : Int))).map .int) S :=
  lc_mapI (f := fun i => 0 + (i : Int)) (h := stv g n L) fun i hi => e_cal ok (by omega) h8 hl
/-- the pauses at which the stair is at most c -/
def upto (g n : Int) (L : List Int) (c : Int) : List Int := (((List.range (2 * n + 2).toNat).map fun (i : Nat) => (0 + (i : Int))).filter fun p => decide (stv g n L p ≤ c))
theorem lc_filI {p : Pat} {t : Env8 → M Bool} {fe : Env8 → M D} {env : Env8} {k : Int → Bool} : ∀ {ns : List Int}, (∀ i ∈ ns, ∃ e, bindM p (.int i) env S = .ok e S ∧ t e S = .ok (k i) S ∧ fe e S = .ok (.int i) S) → loopC p t fe env (ns.map .int) S = .ok ((ns.filter k).map .int) S := fun {ns} H => by
  have := lc_filter8 (S := S) (p := p) (t := t) (fe := fe) (env := env) (g := id) (k := fun d => match d with | .int r => k r | _ => false) (ds := ns.map .int) fun d hd => by
    obtain ⟨r, hr, rfl⟩ := List.mem_map.mp hd
    obtain ⟨e, h1, h2, h3⟩ := H r hr
    exact ⟨e, h1, h2, fun _ => h3⟩
  rw [this, List.filter_map, List.map_map]
  rfl
theorem e_upt {env : Env8} {q : Int} (q0 : 0 ≤ q) (q1 : q < 2 * n + 2) (h3 : env[3]? = some (some (.lst ((vals g n L).map .int)))) (h5 : env[5]? = some (some (.int c))) (hl : 12 < env.length) : ∃ e, bindM (.nm 12) (.int q) env S = .ok e S ∧ (f1 dBool (f2 dLe (f2 dIx (fVar 3) (fVar 12)) (fVar 5))) e S = .ok (decide (stv g n L q ≤ c)) S ∧ (f1 dInt (fCons (fVar 12) fNil)) e S = .ok (.int q) S := by
  have e3 : (env.set 12 (some (.int q)))[3]? = some (some (.lst ((vals g n L).map .int))) := by rw [List.getElem?_set_ne (by decide)]; exact h3
  have e5 : (env.set 12 (some (.int q)))[5]? = some (some (.int c)) := by rw [List.getElem?_set_ne (by decide)]; exact h5
  have e12 : (env.set 12 (some (.int q)))[12]? = some (some (.int q)) := by rw [List.getElem?_set_self hl]
  have a := at_vals (S := S) (g := g) (L := L) q0 q1
  refine ⟨_, x_bind, ?_, ?_⟩
  · simp only [x_f1, x_f2, x_var, e3, e5, e12, vK_some, bd_ok, ap_f2, a, dLe, dBool, ret_ap]
  · simp only [x_f1, x_cons, x_nil, x_var, e12, vK_some, bd_ok, ap_cons, ap_cons2, dInt, ret_ap]
theorem lc_upto {env : Env8} (h3 : env[3]? = some (some (.lst ((vals g n L).map .int)))) (h5 : env[5]? = some (some (.int c))) (hl : 12 < env.length) : loopC (.nm 12) (f1 dBool (f2 dLe (f2 dIx (fVar 3) (fVar 12)) (fVar 5))) (f1 dInt (fCons (fVar 12) fNil)) env ((List.range (2 * n + 2).toNat).map fun (i : Nat) => .int (0 + (i : Int))) S = .ok ((upto g n L c).map .int) S := by
  have e := lc_filI (S := S) (p := .nm 12) (t := f1 dBool (f2 dLe (f2 dIx (fVar 3) (fVar 12)) (fVar 5))) (fe := f1 dInt (fCons (fVar 12) fNil)) (env := env) (k := fun p => decide (stv g n L p ≤ c)) (ns := (List.range (2 * n + 2).toNat).map fun (i : Nat) => (0 + (i : Int))) fun q hq => by
    obtain ⟨i, hi, rfl⟩ := List.mem_map.mp hq
    have := List.mem_range.mp hi
    exact e_upt (by omega) (by omega) h3 h5 hl
  rw [List.map_map] at e
  exact e
theorem due_spec (ok : SOk n g L) (hc : g ≤ c) : upto g n L c ≠ [] ∧ 0 ≤ maxI (upto g n L c) ∧ maxI (upto g n L c) ≤ 2 * n + 1 ∧ stv g n L (maxI (upto g n L c)) ≤ c ∧ ∀ p, 0 ≤ p → p ≤ 2 * n + 1 → stv g n L p ≤ c → p ≤ maxI (upto g n L c) := by
  have mem : ∀ p, p ∈ upto g n L c ↔ (0 ≤ p ∧ p ≤ 2 * n + 1) ∧ stv g n L p ≤ c := fun p => by
    unfold upto
    rw [List.mem_filter, List.mem_map]
    constructor
    · intro ⟨⟨i, hi, e⟩, h⟩
      have := List.mem_range.mp hi
      exact ⟨by omega, of_decide_eq_true h⟩
    · intro ⟨h1, h⟩
      exact ⟨⟨p.toNat, List.mem_range.mpr (by omega), by omega⟩, decide_eq_true h⟩
  have hne : upto g n L c ≠ [] := fun h => by
    have := (mem 0).mpr ⟨⟨Int.le_refl _, by have := ok.p; omega⟩, by rw [stv_zero ok.p ok.r]; exact hc⟩
    rw [h] at this
    cases this
  obtain ⟨h1, h2⟩ := maxI_spec hne
  have h3 := (mem _).mp h1
  exact ⟨hne, h3.1.1, h3.1.2, h3.2, fun p p0 p1 hp => h2 p ((mem p).mpr ⟨⟨p0, p1⟩, hp⟩)⟩
theorem due_lp (ok : SOk n g L) (hk : L ≠ []) (hc : g ≤ c) (h : maxI (upto g n L c) ≠ 2 * n + 1) : maxI (upto g n L c) = lp g n L c := by
  obtain ⟨h1, h2, h3, h4, h5⟩ := due_spec ok hc
  obtain ⟨l1, l2, l3⟩ := lp_all ok hk hc
  refine lp_uniq (g := g) (L := L) (c := c) ok.p h4 ?_ l2 l3
  by_cases z : stv g n L (maxI (upto g n L c) + 1) ≤ c
  · have := h5 _ (by omega) (by omega) z
    omega
  · omega
theorem lp_hi (ok : SOk n g L) (hk : L ≠ []) (hc : g ≤ c) (h2 : c ≤ g + 7) : (lp g n L c).natAbs < 1000 := by
  obtain ⟨l1, l2, l3⟩ := lp_all ok hk hc
  obtain ⟨h1, h3, h4⟩ := SOk.ix (g := g) hk c
  have hr := ok.r _ (List.mem_of_getElem? h1)
  have q0 : 0 ≤ (c - g) / (L.length : Int) := Int.ediv_nonneg (by omega) (by omega)
  have q1 : (c - g) / (L.length : Int) ≤ c - g := Int.ediv_le_self _ (by omega)
  have a := ok.a
  have m1 : n * ((c - g) / (L.length : Int)) ≤ n * 7 := Int.mul_le_mul_of_nonneg_left (by omega) (by omega)
  have e : lp g n L c = (L.getD ((c - g) % (L.length : Int)).toNat 0) + n * ((c - g) / (L.length : Int)) - 1 := rfl
  generalize n * ((c - g) / (L.length : Int)) = u at *
  generalize L.getD ((c - g) % (L.length : Int)).toNat 0 = v at *
  omega
end
end Ol

namespace Ol
open PySem L2 LamX
section
variable {S R : Store} {n g m n' g' c kk : Int} {L L' : List Int} {d : D} {P : O} {k : Nat} {Q : D → Store → Prop} {X : XQ}
theorem n64 (ok : SOk n g L) : (n.natAbs < 2 ^ 64) = True := eq_true (by have := ok.a; omega)
theorem e_body0 (ok : SOk n g []) (hc : g ≤ c) {x0 x4 x6 x7 y x12 v : Option D} : ∃ y', L_one_right_0 [x0, some (.int n), v, some (.lst ((vals g n []).map .int)), x4, some (.int c), x6, x7, some (st n g []), some (.int g), some (.int 0), y, x12] S = .ok (.nx [x0, some (.int n), v, some (.lst ((vals g n []).map .int)), x4, some (.int c), x6, x7, some (st n g []), some (.int g), some (.int 0), y', x12]) S := by
  refine ⟨some .non, ?_⟩
  have ls := fun (S : Store) (env : Env8) (fa : Env8 → M D) (h : env[8]? = some (some (st n g []))) => m_lpK (S := S) (fa := fa) h
  have lv := fun (S : Store) => e_lp_non (S := S) ok hc
  obtain ⟨z, rz⟩ := r_non (S := S)
  have h0 : ((0 : Int) > 0) = False := eq_false (by decide)
  unfold L_one_right_0
  simp only [ap_f2, ap_cons, ap_cons2, ap_and, ap_or, ap_not, ap_if, ap_andV, ap_andV2, ap_orV, ap_orV2, ap_notV, ap_notV2, ap_ch1, ap_ch2, ap_ch3, ap_ch4, ap_lst, ap_tup, ap_lstM, ap_sl, ap_sl2, ap_ret, ap_drop, ap_set, ap_nx, ap_asg, ap_par, ap_par3, ap_r1, ap_r2, ap_si1, ap_si2, ap_si3, ap_sf1, ap_sf2, ap_for, ap_lcE, x_var, vK_some, x_c, x_f1, x_f2, x_nil, x_cons, x_and, x_or, x_not, x_if, x_andV, x_orV, x_notV, x_chain, x_lst, x_tup, x_lstM, x_sl, x_seq, sqK_nx, sqK_rt, sqK_bk, sqK_ct, x_ret, x_retN, x_drop, x_next, x_brk, x_cnt, x_set, x_asg, x_par, x_par3, x_raise1, x_raise2, x_setI, x_setF, endK_rt, endK_nx, x_for, x_bind, bd_ok, bd_er, bd_bad, bnd_bd, ret_ap, bad_ap, ite_ap, List.map_cons, List.map_nil, List.length_cons, List.length_nil, List.cons_append, List.nil_append, List.replicate, List.getElem?_cons_zero, List.getElem?_cons_succ, List.set_cons_zero, List.set_cons_succ, if_true, if_false, Bool.true_eq_false, Bool.false_eq_true, Bool.not_true, Bool.not_false, ite_true, ite_false, ↓reduceIte, Nat.reduceSub, Nat.reduceAdd, big, Nat.reduceLeDiff, Nat.zero_le, decide_true, decide_false, eq_self, wp_bd, ap_kW, wp_ok, wp_er, lpQ_nx, lpQ_ct, lpQ_bk, lpQ_rt, kAlt_ok, kAlt_er, kAlt_bad, ap_co1, ap_co2, isC_ins, ap_mk1, ap_mk2, x_kw, ap_kw1, ap_kw2, wp_noEr, x_lc, ap_lc, x_app, ap_app1, Nat.reduceLT, Nat.reduceBEq, beq_self_eq_true, dBool, dAdd, dSub, dMul, dMod, dFdiv, dPow, dNeg, dLt, dLe, dGt, dGe, eqG_int, eqG_str, eqG_bl, xor_t, xor_f, dIsN, dNotN, dTru, dLen, dAbs, dInt, dStr, dMax2, dMin2, dMul8, dRep, dApp, h0, ls, lv, rz]
theorem e_body1 (ok : SOk n g L) (hk : L ≠ []) (hkk : 0 < kk) (hc : g ≤ c) (hc2 : c ≤ g + 7) {x0 x4 x6 x7 y x12 v : Option D} : ∃ y', L_one_right_0 [x0, some (.int n), v, some (.lst ((vals g n L).map .int)), x4, some (.int c), x6, x7, some (st n g L), some (.int g), some (.int kk), y, x12] S = .ok (.nx [x0, some (.int n), v, some (.lst ((vals g n L).map .int)), x4, some (.int c), x6, x7, some (st n g L), some (.int g), some (.int kk), y', x12]) S := by
  have ls := fun (S : Store) (env : Env8) (fa : Env8 → M D) (h : env[8]? = some (some (st n g L))) => m_lpK (S := S) (fa := fa) h
  have ms := fun (S : Store) (env : Env8) (fa : Env8 → M D) (h : env[8]? = some (some (st n g L))) => m_lp (S := S) (fa := fa) h
  have cs := fun (S : Store) (env : Env8) (fa : Env8 → M D) (h : env[8]? = some (some (st n g L))) => c_st (S := S) (fa := fa) h
  have lv := fun (S : Store) => e_lp (S := S) ok hk hc
  obtain ⟨l1, l2, l3⟩ := lp_all ok hk hc
  have lhi := lp_hi ok hk hc hc2
  have cv1 := e_call (S := S) ok l1
  have cv2 := e_call (S := S) ok (show 0 ≤ lp g n L c + 1 by omega)
  obtain ⟨hne, d1, d2, d3, d4⟩ := due_spec ok hc
  have dl := due_lp ok hk hc
  have mx := e_max (S := S) hne
  have h0 : (kk > 0) = True := eq_true (by omega)
  have h64 := n64 ok
  have hr := rg1 (S := S) (c := 2 * n + 2) (by have := ok.a; omega) (by have := ok.a; omega)
  have hl : ((2 * n + 2).toNat ≤ 1000000) = True := eq_true (by have := ok.a; omega)
  have lu := lc_upto (S := S) (n := n) (g := g) (L := L) (c := c) (env := [x0, some (.int n), v, some (.lst ((vals g n L).map .int)), x4, some (.int c), x6, x7, some (st n g L), some (.int g), some (.int kk), y, none]) rfl rfl (by simp)
  obtain ⟨z, rz⟩ := r_int (S := S) lhi
  have g1 : (stv g n L (lp g n L c) > c) = False := eq_false (by omega)
  have g2 : (stv g n L (lp g n L c + 1) ≤ c) = False := eq_false (by omega)
  generalize hL : lp g n L c = l at *
  generalize hD : maxI (upto g n L c) = du at *
  by_cases hd : du = 2 * n + 1
  · refine ⟨some (.int l), ?_⟩
    have hd' : (du = 2 * n + 1) = True := eq_true hd
    unfold L_one_right_0
    simp only [ap_f2, ap_cons, ap_cons2, ap_and, ap_or, ap_not, ap_if, ap_andV, ap_andV2, ap_orV, ap_orV2, ap_notV, ap_notV2, ap_ch1, ap_ch2, ap_ch3, ap_ch4, ap_lst, ap_tup, ap_lstM, ap_sl, ap_sl2, ap_ret, ap_drop, ap_set, ap_nx, ap_asg, ap_par, ap_par3, ap_r1, ap_r2, ap_si1, ap_si2, ap_si3, ap_sf1, ap_sf2, ap_for, ap_lcE, x_var, vK_some, x_c, x_f1, x_f2, x_nil, x_cons, x_and, x_or, x_not, x_if, x_andV, x_orV, x_notV, x_chain, x_lst, x_tup, x_lstM, x_sl, x_seq, sqK_nx, sqK_rt, sqK_bk, sqK_ct, x_ret, x_retN, x_drop, x_next, x_brk, x_cnt, x_set, x_asg, x_par, x_par3, x_raise1, x_raise2, x_setI, x_setF, endK_rt, endK_nx, x_for, x_bind, bd_ok, bd_er, bd_bad, bnd_bd, ret_ap, bad_ap, ite_ap, List.map_cons, List.map_nil, List.length_cons, List.length_nil, List.cons_append, List.nil_append, List.replicate, List.getElem?_cons_zero, List.getElem?_cons_succ, List.set_cons_zero, List.set_cons_succ, if_true, if_false, Bool.true_eq_false, Bool.false_eq_true, Bool.not_true, Bool.not_false, ite_true, ite_false, ↓reduceIte, Nat.reduceSub, Nat.reduceAdd, big, Nat.reduceLeDiff, Nat.zero_le, decide_true, decide_false, eq_self, wp_bd, ap_kW, wp_ok, wp_er, lpQ_nx, lpQ_ct, lpQ_bk, lpQ_rt, kAlt_ok, kAlt_er, kAlt_bad, ap_co1, ap_co2, isC_ins, ap_mk1, ap_mk2, x_kw, ap_kw1, ap_kw2, wp_noEr, x_lc, ap_lc, x_app, ap_app1, Nat.reduceLT, Nat.reduceBEq, beq_self_eq_true, dBool, dAdd, dSub, dMul, dMod, dFdiv, dPow, dNeg, dLt, dLe, dGt, dGe, eqG_int, eqG_str, eqG_bl, xor_t, xor_f, dIsN, dNotN, dTru, dLen, dAbs, dInt, dStr, dMax2, dMin2, dMul8, dRep, dApp, h0, h64, hr, hl, or_true, true_or, Pat.slots, wipe8, List.length_map, List.length_range, noEr_ok lu, mx, hd', ms, cs, ls, lv, cv1, cv2, g1, g2, rz]
  · have e := dl hd
    subst e
    refine ⟨some (.int du), ?_⟩
    have hd' : (du = 2 * n + 1) = False := eq_false hd
    unfold L_one_right_0
    simp only [ap_f2, ap_cons, ap_cons2, ap_and, ap_or, ap_not, ap_if, ap_andV, ap_andV2, ap_orV, ap_orV2, ap_notV, ap_notV2, ap_ch1, ap_ch2, ap_ch3, ap_ch4, ap_lst, ap_tup, ap_lstM, ap_sl, ap_sl2, ap_ret, ap_drop, ap_set, ap_nx, ap_asg, ap_par, ap_par3, ap_r1, ap_r2, ap_si1, ap_si2, ap_si3, ap_sf1, ap_sf2, ap_for, ap_lcE, x_var, vK_some, x_c, x_f1, x_f2, x_nil, x_cons, x_and, x_or, x_not, x_if, x_andV, x_orV, x_notV, x_chain, x_lst, x_tup, x_lstM, x_sl, x_seq, sqK_nx, sqK_rt, sqK_bk, sqK_ct, x_ret, x_retN, x_drop, x_next, x_brk, x_cnt, x_set, x_asg, x_par, x_par3, x_raise1, x_raise2, x_setI, x_setF, endK_rt, endK_nx, x_for, x_bind, bd_ok, bd_er, bd_bad, bnd_bd, ret_ap, bad_ap, ite_ap, List.map_cons, List.map_nil, List.length_cons, List.length_nil, List.cons_append, List.nil_append, List.replicate, List.getElem?_cons_zero, List.getElem?_cons_succ, List.set_cons_zero, List.set_cons_succ, if_true, if_false, Bool.true_eq_false, Bool.false_eq_true, Bool.not_true, Bool.not_false, ite_true, ite_false, ↓reduceIte, Nat.reduceSub, Nat.reduceAdd, big, Nat.reduceLeDiff, Nat.zero_le, decide_true, decide_false, eq_self, wp_bd, ap_kW, wp_ok, wp_er, lpQ_nx, lpQ_ct, lpQ_bk, lpQ_rt, kAlt_ok, kAlt_er, kAlt_bad, ap_co1, ap_co2, isC_ins, ap_mk1, ap_mk2, x_kw, ap_kw1, ap_kw2, wp_noEr, x_lc, ap_lc, x_app, ap_app1, Nat.reduceLT, Nat.reduceBEq, beq_self_eq_true, dBool, dAdd, dSub, dMul, dMod, dFdiv, dPow, dNeg, dLt, dLe, dGt, dGe, eqG_int, eqG_str, eqG_bl, xor_t, xor_f, dIsN, dNotN, dTru, dLen, dAbs, dInt, dStr, dMax2, dMin2, dMul8, dRep, dApp, h0, h64, hr, hl, or_true, true_or, Pat.slots, wipe8, List.length_map, List.length_range, noEr_ok lu, mx, hd', ms, cs, ls, lv, rz]
end
end Ol

namespace Ol
open PySem L2 LamX
section
variable {S R : Store} {n g m n' g' c kk : Int} {L L' : List Int} {d : D} {P : O} {k : Nat} {Q : D → Store → Prop} {X : XQ}
theorem rg2 {a b : Int} (h0 : -1000 ≤ a ∧ a ≤ 1000) (h1 : -1000 ≤ b ∧ b ≤ 1000) : dRange2 [.int a, .int b] S = .ok ((List.range (b - a).toNat).map fun (i : Nat) => .int (a + (i : Int))) S := by
  unfold dRange2
  dsimp only
  rw [if_pos (by omega)]
  rfl
theorem far_eq {t : Int} (ok : SOk n g L) (hkk : (L.length : Int) = kk) : stv g n L (t * n + 1) = stv g n L 1 + t * kk := by
  have a := ok.a
  have h1 := sts_at ok.p t 1 (by decide) (by omega) ok.r
  have h2 := sts_at ok.p 0 1 (by decide) (by omega) ok.r
  simp only [Int.zero_mul, Int.zero_add] at h2
  unfold stv
  rw [h1, h2, hkk]
  omega
theorem t30 : ∃ t : Int, (10 : Int) ^ Int.toNat 30 = t ∧ 0 ≤ t := ⟨_, rfl, by decide⟩
theorem t25 : ∃ t : Int, (10 : Int) ^ Int.toNat 25 = t ∧ 1000 ≤ t := ⟨_, rfl, by decide⟩
theorem w_one (pn : Pn P (k + 4)) (ok : SOk n g L) (h : ∀ P', Pn P' k → Q (.bl true) [P']) : Wp (F_one_right [.loc 0, .int n, pt g L] [P]) Q X := by
  have g30 : (0 ≤ (30 : Int) ∧ (30 : Int) ≤ 1000000 ∧ (10 : Int).natAbs < 2 ^ 64) = True := eq_true (by decide)
  have g25 : (0 ≤ (25 : Int) ∧ (25 : Int) ≤ 1000000 ∧ (10 : Int).natAbs < 2 ^ 64) = True := eq_true (by decide)
  obtain ⟨t, ht, t0⟩ := t30
  obtain ⟨u, hu, u0⟩ := t25
  have al := ok.a
  have bl := ok.b
  have kl := ok.l
  obtain ⟨kk, hkk⟩ : ∃ kk : Int, (L.length : Int) = kk := ⟨_, rfl⟩
  have hlen : ∀ S, dLen [.lst (L.map .int)] S = .ok (.int kk) S := fun S => by
    unfold dLen
    simp only [asL, List.length_map, hkk]
  have k64 : (kk.natAbs < 2 ^ 64) = True := eq_true (by omega)
  have h64 := n64 ok
  have m1 := e_made (n := n) (g := g) (L := L) (S := [P]) ((Clean.nil.cons fun k => pn.lim k : Clean [P]).all _)
  have ix1 : ∀ S, dIx (pt g L) (.int 1) S = .ok (.lst (L.map .int)) S := fun _ => rfl
  have ix0 : ∀ S, dIx (pt g L) (.int 0) S = .ok (.int g) S := fun _ => rfl
  have hr := fun S => rg1 (S := S) (c := 2 * n + 2) (by omega) (by omega)
  have hl : ((2 * n + 2).toNat ≤ 1000000) = True := eq_true (by omega)
  have lv := lc_vals (S := [P]) (N := (2 * n + 2).toNat) (env := [some (.loc 0), some (.int n), some (pt g L), none, none, none, none, none, some (st n g L), some (.int g), some (.int kk), none, none]) ok (by omega) rfl rfl (by simp)
  have lcl := lc_cals (S := [P]) (N := (2 * n + 2).toNat) (env := [some (.loc 0), some (.int n), some (pt g L), some (.lst ((vals g n L).map .int)), none, none, none, none, some (st n g L), some (.int g), some (.int kk), none, none]) ok rfl (by simp)
  have gd : (List.range (2 * n + 2).toNat).map (fun (i : Nat) => stv g n L (0 + (i : Int))) = vals g n L := rfl
  obtain ⟨z, rz⟩ := r_vals (S := [P]) ok
  have ms := fun (S : Store) (env : Env8) (fa : Env8 → M D) (h : env[8]? = some (some (st n g L))) => m_lp (S := S) (fa := fa) h
  have cs := fun (S : Store) (env : Env8) (fa : Env8 → M D) (h : env[8]? = some (some (st n g L))) => c_st (S := S) (fa := fa) h
  unfold F_one_right
  rw [x_run (by rfl)]
  simp only [ap_f2, ap_cons, ap_cons2, ap_and, ap_or, ap_not, ap_if, ap_andV, ap_andV2, ap_orV, ap_orV2, ap_notV, ap_notV2, ap_ch1, ap_ch2, ap_ch3, ap_ch4, ap_lst, ap_tup, ap_lstM, ap_sl, ap_sl2, ap_ret, ap_drop, ap_set, ap_nx, ap_asg, ap_par, ap_par3, ap_r1, ap_r2, ap_si1, ap_si2, ap_si3, ap_sf1, ap_sf2, ap_for, ap_lcE, x_var, vK_some, x_c, x_f1, x_f2, x_nil, x_cons, x_and, x_or, x_not, x_if, x_andV, x_orV, x_notV, x_chain, x_lst, x_tup, x_lstM, x_sl, x_seq, sqK_nx, sqK_rt, sqK_bk, sqK_ct, x_ret, x_retN, x_drop, x_next, x_brk, x_cnt, x_set, x_asg, x_par, x_par3, x_raise1, x_raise2, x_setI, x_setF, endK_rt, endK_nx, x_for, x_bind, bd_ok, bd_er, bd_bad, bnd_bd, ret_ap, bad_ap, ite_ap, List.map_cons, List.map_nil, List.length_cons, List.length_nil, List.cons_append, List.nil_append, List.replicate, List.getElem?_cons_zero, List.getElem?_cons_succ, List.set_cons_zero, List.set_cons_succ, if_true, if_false, Bool.true_eq_false, Bool.false_eq_true, Bool.not_true, Bool.not_false, ite_true, ite_false, ↓reduceIte, Nat.reduceSub, Nat.reduceAdd, big, Nat.reduceLeDiff, Nat.zero_le, decide_true, decide_false, eq_self, wp_bd, ap_kW, wp_ok, wp_er, lpQ_nx, lpQ_ct, lpQ_bk, lpQ_rt, kAlt_ok, kAlt_er, kAlt_bad, ap_co1, ap_co2, isC_ins, ap_mk1, ap_mk2, x_kw, ap_kw1, ap_kw2, wp_noEr, x_lc, ap_lc, x_app, ap_app1, Nat.reduceLT, Nat.reduceBEq, beq_self_eq_true, dBool, dAdd, dSub, dMul, dMod, dFdiv, dPow, dNeg, dLt, dLe, dGt, dGe, eqG_int, eqG_str, eqG_bl, xor_t, xor_f, dIsN, dNotN, dTru, dAbs, dInt, dStr, dMax2, dMin2, dMul8, dRep, dApp, m1, ix0, ix1, hlen, bind_tp3, hr, hl, h64, or_true, true_or, Pat.slots, wipe8, List.length_map, List.length_range, noEr_ok lv, gd, noEr_ok lcl, rz, g30, ht]
  refine w_draw (m := k + 3) pn (by decide) (by decide) fun d P1 pn1 d0 d1 => ?_
  have td : 0 ≤ t + d := by omega
  have cv := e_call (S := [P1]) (m := (t + d) * n + 1) ok (by have := Int.mul_nonneg td (show 0 ≤ n by omega); omega)
  have av := at_vals (S := [P1]) (n := n) (g := g) (L := L) (q := 1) (by decide) (by omega)
  have fe : (stv g n L ((t + d) * n + 1) = stv g n L 1 + (t + d) * kk) = True := eq_true (far_eq ok hkk)
  have lo := e_lp_lo (S := [P1]) (c := g - 1) ok (by omega)
  have r2 := rg2 (S := [P1]) (a := g) (b := g + kk + 2) (by omega) (by omega)
  simp only [ap_f2, ap_cons, ap_cons2, ap_and, ap_or, ap_not, ap_if, ap_andV, ap_andV2, ap_orV, ap_orV2, ap_notV, ap_notV2, ap_ch1, ap_ch2, ap_ch3, ap_ch4, ap_lst, ap_tup, ap_lstM, ap_sl, ap_sl2, ap_ret, ap_drop, ap_set, ap_nx, ap_asg, ap_par, ap_par3, ap_r1, ap_r2, ap_si1, ap_si2, ap_si3, ap_sf1, ap_sf2, ap_for, ap_lcE, x_var, vK_some, x_c, x_f1, x_f2, x_nil, x_cons, x_and, x_or, x_not, x_if, x_andV, x_orV, x_notV, x_chain, x_lst, x_tup, x_lstM, x_sl, x_seq, sqK_nx, sqK_rt, sqK_bk, sqK_ct, x_ret, x_retN, x_drop, x_next, x_brk, x_cnt, x_set, x_asg, x_par, x_par3, x_raise1, x_raise2, x_setI, x_setF, endK_rt, endK_nx, x_for, x_bind, bd_ok, bd_er, bd_bad, bnd_bd, ret_ap, bad_ap, ite_ap, List.map_cons, List.map_nil, List.length_cons, List.length_nil, List.cons_append, List.nil_append, List.replicate, List.getElem?_cons_zero, List.getElem?_cons_succ, List.set_cons_zero, List.set_cons_succ, if_true, if_false, Bool.true_eq_false, Bool.false_eq_true, Bool.not_true, Bool.not_false, ite_true, ite_false, ↓reduceIte, Nat.reduceSub, Nat.reduceAdd, big, Nat.reduceLeDiff, Nat.zero_le, decide_true, decide_false, eq_self, wp_bd, ap_kW, wp_ok, wp_er, lpQ_nx, lpQ_ct, lpQ_bk, lpQ_rt, kAlt_ok, kAlt_er, kAlt_bad, ap_co1, ap_co2, isC_ins, ap_mk1, ap_mk2, x_kw, ap_kw1, ap_kw2, wp_noEr, x_lc, ap_lc, x_app, ap_app1, Nat.reduceLT, Nat.reduceBEq, beq_self_eq_true, dBool, dAdd, dSub, dMul, dMod, dFdiv, dPow, dNeg, dLt, dLe, dGt, dGe, eqG_int, eqG_str, eqG_bl, xor_t, xor_f, dIsN, dNotN, dTru, dAbs, dInt, dStr, dMax2, dMin2, dMul8, dRep, dApp, h64, k64, or_true, true_or, cs, ms, cv, av, fe, lo, r2, ht]
  refine wp_loop (fun _ e S => ∃ x5 x11, e = [some (.loc 0), some (.int n), some (pt g L), some (.lst ((vals g n L).map .int)), some (.int (t + d)), x5, none, none, some (st n g L), some (.int g), some (.int kk), x11, none] ∧ S = [P1]) ⟨_, _, rfl, rfl⟩ (fun j v e S hj hI => ?_) fun e S hI => ?_
  · obtain ⟨x5, x11, rfl, rfl⟩ := hI
    obtain ⟨c, hc, hc2, rfl⟩ : ∃ c : Int, g ≤ c ∧ c ≤ g + 7 ∧ v = .int c := by
      obtain ⟨i, hi, e⟩ := List.mem_map.mp (List.mem_of_getElem? hj)
      have := List.mem_range.mp hi
      exact ⟨g + i, by omega, by omega, e.symm⟩
    refine ⟨_, x_bind, ?_⟩
    by_cases hL : L = []
    · subst hL
      have k0 : kk = 0 := by rw [← hkk]; rfl
      subst k0
      obtain ⟨y, e⟩ := e_body0 (S := [P1]) (c := c) ok hc (x0 := some (.loc 0)) (x4 := some (.int (t + d))) (x6 := none) (x7 := none) (y := x11) (x12 := none) (v := some (pt g []))
      refine wp_eq e ?_
      exact ⟨_, _, rfl, rfl⟩
    · have k0 : 0 < kk := by
        cases L with
        | nil => exact absurd rfl hL
        | cons a b => simp only [List.length_cons] at hkk; omega
      obtain ⟨y, e⟩ := e_body1 (S := [P1]) (c := c) ok hL k0 hc hc2 (x0 := some (.loc 0)) (x4 := some (.int (t + d))) (x6 := none) (x7 := none) (y := x11) (x12 := none) (v := some (pt g L))
      refine wp_eq e ?_
      exact ⟨_, _, rfl, rfl⟩
  · obtain ⟨x5, x11, rfl, rfl⟩ := hI
    simp only [ap_f2, ap_cons, ap_cons2, ap_and, ap_or, ap_not, ap_if, ap_andV, ap_andV2, ap_orV, ap_orV2, ap_notV, ap_notV2, ap_ch1, ap_ch2, ap_ch3, ap_ch4, ap_lst, ap_tup, ap_lstM, ap_sl, ap_sl2, ap_ret, ap_drop, ap_set, ap_nx, ap_asg, ap_par, ap_par3, ap_r1, ap_r2, ap_si1, ap_si2, ap_si3, ap_sf1, ap_sf2, ap_for, ap_lcE, x_var, vK_some, x_c, x_f1, x_f2, x_nil, x_cons, x_and, x_or, x_not, x_if, x_andV, x_orV, x_notV, x_chain, x_lst, x_tup, x_lstM, x_sl, x_seq, sqK_nx, sqK_rt, sqK_bk, sqK_ct, x_ret, x_retN, x_drop, x_next, x_brk, x_cnt, x_set, x_asg, x_par, x_par3, x_raise1, x_raise2, x_setI, x_setF, endK_rt, endK_nx, x_for, x_bind, bd_ok, bd_er, bd_bad, bnd_bd, ret_ap, bad_ap, ite_ap, List.map_cons, List.map_nil, List.length_cons, List.length_nil, List.cons_append, List.nil_append, List.replicate, List.getElem?_cons_zero, List.getElem?_cons_succ, List.set_cons_zero, List.set_cons_succ, if_true, if_false, Bool.true_eq_false, Bool.false_eq_true, Bool.not_true, Bool.not_false, ite_true, ite_false, ↓reduceIte, Nat.reduceSub, Nat.reduceAdd, big, Nat.reduceLeDiff, Nat.zero_le, decide_true, decide_false, eq_self, wp_bd, ap_kW, wp_ok, wp_er, lpQ_nx, lpQ_ct, lpQ_bk, lpQ_rt, kAlt_ok, kAlt_er, kAlt_bad, ap_co1, ap_co2, isC_ins, ap_mk1, ap_mk2, x_kw, ap_kw1, ap_kw2, wp_noEr, x_lc, ap_lc, x_app, ap_app1, Nat.reduceLT, Nat.reduceBEq, beq_self_eq_true, dBool, dAdd, dSub, dMul, dMod, dFdiv, dPow, dNeg, dLt, dLe, dGt, dGe, eqG_int, eqG_str, eqG_bl, xor_t, xor_f, dIsN, dNotN, dTru, dAbs, dInt, dStr, dMax2, dMin2, dMul8, dRep, dApp, g25, hu]
    refine w_draw (m := k + 2) pn1 (by decide) (by decide) fun d2 P2 pn2 e0 e1 => ?_
    by_cases hL : L = []
    · subst hL
      have k0 : kk = 0 := by rw [← hkk]; rfl
      subst k0
      have nv := e_lp_non (S := [P2]) (c := u + d2) ok (by omega)
      have z0 : ((0 : Int) = 0) = True := eq_true rfl
      simp only [ap_f2, ap_cons, ap_cons2, ap_and, ap_or, ap_not, ap_if, ap_andV, ap_andV2, ap_orV, ap_orV2, ap_notV, ap_notV2, ap_ch1, ap_ch2, ap_ch3, ap_ch4, ap_lst, ap_tup, ap_lstM, ap_sl, ap_sl2, ap_ret, ap_drop, ap_set, ap_nx, ap_asg, ap_par, ap_par3, ap_r1, ap_r2, ap_si1, ap_si2, ap_si3, ap_sf1, ap_sf2, ap_for, ap_lcE, x_var, vK_some, x_c, x_f1, x_f2, x_nil, x_cons, x_and, x_or, x_not, x_if, x_andV, x_orV, x_notV, x_chain, x_lst, x_tup, x_lstM, x_sl, x_seq, sqK_nx, sqK_rt, sqK_bk, sqK_ct, x_ret, x_retN, x_drop, x_next, x_brk, x_cnt, x_set, x_asg, x_par, x_par3, x_raise1, x_raise2, x_setI, x_setF, endK_rt, endK_nx, x_for, x_bind, bd_ok, bd_er, bd_bad, bnd_bd, ret_ap, bad_ap, ite_ap, List.map_cons, List.map_nil, List.length_cons, List.length_nil, List.cons_append, List.nil_append, List.replicate, List.getElem?_cons_zero, List.getElem?_cons_succ, List.set_cons_zero, List.set_cons_succ, if_true, if_false, Bool.true_eq_false, Bool.false_eq_true, Bool.not_true, Bool.not_false, ite_true, ite_false, ↓reduceIte, Nat.reduceSub, Nat.reduceAdd, big, Nat.reduceLeDiff, Nat.zero_le, decide_true, decide_false, eq_self, wp_bd, ap_kW, wp_ok, wp_er, lpQ_nx, lpQ_ct, lpQ_bk, lpQ_rt, kAlt_ok, kAlt_er, kAlt_bad, ap_co1, ap_co2, isC_ins, ap_mk1, ap_mk2, x_kw, ap_kw1, ap_kw2, wp_noEr, x_lc, ap_lc, x_app, ap_app1, Nat.reduceLT, Nat.reduceBEq, beq_self_eq_true, dBool, dAdd, dSub, dMul, dMod, dFdiv, dPow, dNeg, dLt, dLe, dGt, dGe, eqG_int, eqG_str, eqG_bl, xor_t, xor_f, dIsN, dNotN, dTru, dAbs, dInt, dStr, dMax2, dMin2, dMul8, dRep, dApp, ms, nv, z0]
      exact h P2 (pn2.le (by omega))
    · have k0 : (kk = 0) = False := eq_false (by
        cases L with
        | nil => exact absurd rfl hL
        | cons a b => simp only [List.length_cons] at hkk; omega)
      have nv := e_lp (S := [P2]) (c := u + d2) ok hL (by omega)
      obtain ⟨l1, l2, l3⟩ := lp_all (c := u + d2) ok hL (by omega)
      have cv1 := e_call (S := [P2]) ok l1
      have cv2 := e_call (S := [P2]) ok (show 0 ≤ lp g n L (u + d2) + 1 by omega)
      have g1 : (stv g n L (lp g n L (u + d2)) ≤ u + d2) = True := eq_true l2
      have g2 : (u + d2 < stv g n L (lp g n L (u + d2) + 1)) = True := eq_true l3
      simp only [ap_f2, ap_cons, ap_cons2, ap_and, ap_or, ap_not, ap_if, ap_andV, ap_andV2, ap_orV, ap_orV2, ap_notV, ap_notV2, ap_ch1, ap_ch2, ap_ch3, ap_ch4, ap_lst, ap_tup, ap_lstM, ap_sl, ap_sl2, ap_ret, ap_drop, ap_set, ap_nx, ap_asg, ap_par, ap_par3, ap_r1, ap_r2, ap_si1, ap_si2, ap_si3, ap_sf1, ap_sf2, ap_for, ap_lcE, x_var, vK_some, x_c, x_f1, x_f2, x_nil, x_cons, x_and, x_or, x_not, x_if, x_andV, x_orV, x_notV, x_chain, x_lst, x_tup, x_lstM, x_sl, x_seq, sqK_nx, sqK_rt, sqK_bk, sqK_ct, x_ret, x_retN, x_drop, x_next, x_brk, x_cnt, x_set, x_asg, x_par, x_par3, x_raise1, x_raise2, x_setI, x_setF, endK_rt, endK_nx, x_for, x_bind, bd_ok, bd_er, bd_bad, bnd_bd, ret_ap, bad_ap, ite_ap, List.map_cons, List.map_nil, List.length_cons, List.length_nil, List.cons_append, List.nil_append, List.replicate, List.getElem?_cons_zero, List.getElem?_cons_succ, List.set_cons_zero, List.set_cons_succ, if_true, if_false, Bool.true_eq_false, Bool.false_eq_true, Bool.not_true, Bool.not_false, ite_true, ite_false, ↓reduceIte, Nat.reduceSub, Nat.reduceAdd, big, Nat.reduceLeDiff, Nat.zero_le, decide_true, decide_false, eq_self, wp_bd, ap_kW, wp_ok, wp_er, lpQ_nx, lpQ_ct, lpQ_bk, lpQ_rt, kAlt_ok, kAlt_er, kAlt_bad, ap_co1, ap_co2, isC_ins, ap_mk1, ap_mk2, x_kw, ap_kw1, ap_kw2, wp_noEr, x_lc, ap_lc, x_app, ap_app1, Nat.reduceLT, Nat.reduceBEq, beq_self_eq_true, dBool, dAdd, dSub, dMul, dMod, dFdiv, dPow, dNeg, dLt, dLe, dGt, dGe, eqG_int, eqG_str, eqG_bl, xor_t, xor_f, dIsN, dNotN, dTru, dAbs, dInt, dStr, dMax2, dMin2, dMul8, dRep, dApp, ms, cs, nv, k0, cv1, cv2, g1, g2]
      exact h P2 (pn2.le (by omega))
end
end Ol

namespace Ol
open PySem L2 LamX
section
variable {S R : Store} {n g m n' g' c kk : Int} {L L' : List Int} {v d : D} {P : O} {k : Nat} {Q : D → Store → Prop} {X : XQ}
theorem t30b : ∃ t : Int, (10 : Int) ^ Int.toNat 30 = t ∧ 1 ≤ t ∧ (0 - t).natAbs < 10 ^ 75 := ⟨_, rfl, by decide, by decide⟩
/-- values that are no pause -/
def Odd (v : D) : Prop := v = .non ∨ (∃ i : Int, v = .int i ∧ i < 0 ∧ i.natAbs < 10 ^ 75) ∨ v = .bl true ∨ v = .bl false ∨ v = .str "1" ∨ v = .tup [.int 1] ∨ v = .lst [.int 1] ∨ v = .dct []
theorem e_callN (h : F_is_integer [v] S = .ok (.bl false) S) : F_Stair_call [st n g L, v] S = .er 12 [("value", v)] S := by
  unfold F_Stair_call
  refine (x_run (by rfl)).trans ?_
  simp only [ap_f2, ap_cons, ap_cons2, ap_and, ap_or, ap_not, ap_if, ap_andV, ap_andV2, ap_orV, ap_orV2, ap_notV, ap_notV2, ap_ch1, ap_ch2, ap_ch3, ap_ch4, ap_lst, ap_tup, ap_lstM, ap_sl, ap_sl2, ap_ret, ap_drop, ap_set, ap_nx, ap_asg, ap_par, ap_par3, ap_r1, ap_r2, ap_si1, ap_si2, ap_si3, ap_sf1, ap_sf2, ap_for, ap_lcE, x_var, vK_some, x_c, x_f1, x_f2, x_nil, x_cons, x_and, x_or, x_not, x_if, x_andV, x_orV, x_notV, x_chain, x_lst, x_tup, x_lstM, x_sl, x_seq, sqK_nx, sqK_rt, sqK_bk, sqK_ct, x_ret, x_retN, x_drop, x_next, x_brk, x_cnt, x_set, x_asg, x_par, x_par3, x_raise1, x_raise2, x_setI, x_setF, endK_rt, endK_nx, x_for, x_bind, bd_ok, bd_er, bd_bad, bnd_bd, ret_ap, bad_ap, ite_ap, List.map_cons, List.map_nil, List.length_cons, List.length_nil, List.cons_append, List.nil_append, List.replicate, List.getElem?_cons_zero, List.getElem?_cons_succ, List.set_cons_zero, List.set_cons_succ, if_true, if_false, Bool.true_eq_false, Bool.false_eq_true, Bool.not_true, Bool.not_false, ite_true, ite_false, ↓reduceIte, Nat.reduceSub, Nat.reduceAdd, big, Nat.reduceLeDiff, Nat.zero_le, decide_true, decide_false, eq_self, wp_bd, ap_kW, wp_ok, wp_er, lpQ_nx, lpQ_ct, lpQ_bk, lpQ_rt, x_alt2, kAlt_ok, kAlt_er, kAlt_bad, x_altF, x_callO, ap_co1, ap_co2, isC_ins, x_methK, ap_mk1, ap_mk2, x_kw, ap_kw1, ap_kw2, x_heard, wp_noEr, x_lc, ap_lc, x_app, ap_app1, Nat.reduceLT, Nat.reduceBEq, beq_self_eq_true, dBool, dAdd, dSub, dMul, dMod, dFdiv, dPow, dNeg, dLt, dLe, dGt, dGe, eqG_int, eqG_str, eqG_bl, xor_t, xor_f, dIsN, dNotN, dTru, dIx, dLen, dAbs, dInt, dStr, dMax2, dMin2, dMul8, dRep, dApp, h]
theorem Odd.call (h : Odd v) : F_Stair_call [st n g L, v] S = .er 12 [("value", v)] S := by
  rcases h with rfl | ⟨i, rfl, hi, _⟩ | rfl | rfl | rfl | rfl | rfl | rfl
  case inr.inl =>
    unfold F_Stair_call
    refine (x_run (by rfl)).trans ?_
    have h0 : (i < 0) = True := eq_true hi
    simp only [ap_f2, ap_cons, ap_cons2, ap_and, ap_or, ap_not, ap_if, ap_andV, ap_andV2, ap_orV, ap_orV2, ap_notV, ap_notV2, ap_ch1, ap_ch2, ap_ch3, ap_ch4, ap_lst, ap_tup, ap_lstM, ap_sl, ap_sl2, ap_ret, ap_drop, ap_set, ap_nx, ap_asg, ap_par, ap_par3, ap_r1, ap_r2, ap_si1, ap_si2, ap_si3, ap_sf1, ap_sf2, ap_for, ap_lcE, x_var, vK_some, x_c, x_f1, x_f2, x_nil, x_cons, x_and, x_or, x_not, x_if, x_andV, x_orV, x_notV, x_chain, x_lst, x_tup, x_lstM, x_sl, x_seq, sqK_nx, sqK_rt, sqK_bk, sqK_ct, x_ret, x_retN, x_drop, x_next, x_brk, x_cnt, x_set, x_asg, x_par, x_par3, x_raise1, x_raise2, x_setI, x_setF, endK_rt, endK_nx, x_for, x_bind, bd_ok, bd_er, bd_bad, bnd_bd, ret_ap, bad_ap, ite_ap, List.map_cons, List.map_nil, List.length_cons, List.length_nil, List.cons_append, List.nil_append, List.replicate, List.getElem?_cons_zero, List.getElem?_cons_succ, List.set_cons_zero, List.set_cons_succ, if_true, if_false, Bool.true_eq_false, Bool.false_eq_true, Bool.not_true, Bool.not_false, ite_true, ite_false, ↓reduceIte, Nat.reduceSub, Nat.reduceAdd, big, Nat.reduceLeDiff, Nat.zero_le, decide_true, decide_false, eq_self, wp_bd, ap_kW, wp_ok, wp_er, lpQ_nx, lpQ_ct, lpQ_bk, lpQ_rt, x_alt2, kAlt_ok, kAlt_er, kAlt_bad, x_altF, x_callO, ap_co1, ap_co2, isC_ins, x_methK, ap_mk1, ap_mk2, x_kw, ap_kw1, ap_kw2, x_heard, wp_noEr, x_lc, ap_lc, x_app, ap_app1, Nat.reduceLT, Nat.reduceBEq, beq_self_eq_true, dBool, dAdd, dSub, dMul, dMod, dFdiv, dPow, dNeg, dLt, dLe, dGt, dGe, eqG_int, eqG_str, eqG_bl, xor_t, xor_f, dIsN, dNotN, dTru, dIx, dLen, dAbs, dInt, dStr, dMax2, dMin2, dMul8, dRep, dApp, e_int, h0]
  all_goals exact e_callN (e_is_integer S trivial)
theorem rep_ok {p : PyData} {n k : Nat} (hd : ∀ S, dRepr2 [d] S = dRepr [d] S) (h : ∀ S, pyOf S d = some p) (sh : Sh p n k) (hn : n ≤ big) (hk : k ≤ 40) (ok : PyData.strOk p.shown = true) : ∃ z, (∀ S, dRepr2 [d] S = .ok (.str z) S) ∧ PyData.strOk z = true := ⟨p.shown, fun S => (hd S).trans (e_repr (h S) sh hn hk), ok⟩
theorem Odd.rep (h : Odd v) : ∃ z, (∀ S, dRepr2 [v] S = .ok (.str z) S) ∧ PyData.strOk z = true := by
  rcases h with rfl | ⟨i, rfl, hi, hb⟩ | rfl | rfl | rfl | rfl | rfl | rfl
  · exact rep_ok (p := .none) (fun _ => rfl) (fun _ => rfl) Sh.none (by decide) (by decide) (by decide +kernel)
  · exact rep_ok (p := .int i) (fun _ => rfl) (fun _ => rfl) (Sh.int hb) (by decide) (by decide) (strOk_of _)
  · exact rep_ok (p := .bool true) (fun _ => rfl) (fun _ => rfl) (Sh.bool _) (by decide) (by decide) (by decide +kernel)
  · exact rep_ok (p := .bool false) (fun _ => rfl) (fun _ => rfl) (Sh.bool _) (by decide) (by decide) (by decide +kernel)
  · exact rep_ok (p := .str "1") (n := 100) (k := 5) (fun _ => rfl) (fun _ => rfl) ⟨rfl, rfl, by decide +kernel, by decide +kernel⟩ (by decide) (by decide) (by decide +kernel)
  · exact rep_ok (p := .tuple [.int 1]) (n := 100) (k := 5) (fun _ => rfl) (fun _ => rfl) ⟨by decide +kernel, rfl, by decide +kernel, by decide +kernel⟩ (by decide) (by decide) (by decide +kernel)
  · exact rep_ok (p := .list [.int 1]) (n := 100) (k := 5) (fun _ => rfl) (fun _ => rfl) ⟨by decide +kernel, rfl, by decide +kernel, by decide +kernel⟩ (by decide) (by decide) (by decide +kernel)
  · exact ⟨"{}", fun _ => rfl, by decide +kernel⟩
theorem Odd.lim (h : Odd v) (k : Nat) : v.lim k = true := by
  rcases h with rfl | ⟨i, rfl, hi, hb⟩ | rfl | rfl | rfl | rfl | rfl | rfl
  all_goals rfl
/-- values that are no stair -/
def Strange (n g : Int) (L : List Int) (v : D) : Prop := v = .non ∨ v = .int 0 ∨ v = .int 5 ∨ v = .bl true ∨ v = .str "stair" ∨ v = .tup [.int 1] ∨ v = .lst [st n g L] ∨ v = .dct []
theorem Strange.isS (h : Strange n' g' L' v) : dIsi kOwn kErs kTb [v, .cls 39] S = .ok (.bl false) S := by
  rcases h with rfl | rfl | rfl | rfl | rfl | rfl | rfl | rfl
  all_goals simp only [ap_f2, ap_cons, ap_cons2, ap_and, ap_or, ap_not, ap_if, ap_andV, ap_andV2, ap_orV, ap_orV2, ap_notV, ap_notV2, ap_ch1, ap_ch2, ap_ch3, ap_ch4, ap_lst, ap_tup, ap_lstM, ap_sl, ap_sl2, ap_ret, ap_drop, ap_set, ap_nx, ap_asg, ap_par, ap_par3, ap_r1, ap_r2, ap_si1, ap_si2, ap_si3, ap_sf1, ap_sf2, ap_for, ap_lcE, x_var, vK_some, x_c, x_f1, x_f2, x_nil, x_cons, x_and, x_or, x_not, x_if, x_andV, x_orV, x_notV, x_chain, x_lst, x_tup, x_lstM, x_sl, x_seq, sqK_nx, sqK_rt, sqK_bk, sqK_ct, x_ret, x_retN, x_drop, x_next, x_brk, x_cnt, x_set, x_asg, x_par, x_par3, x_raise1, x_raise2, x_setI, x_setF, endK_rt, endK_nx, x_for, x_bind, bd_ok, bd_er, bd_bad, bnd_bd, ret_ap, bad_ap, ite_ap, List.map_cons, List.map_nil, List.length_cons, List.length_nil, List.cons_append, List.nil_append, List.replicate, List.getElem?_cons_zero, List.getElem?_cons_succ, List.set_cons_zero, List.set_cons_succ, if_true, if_false, Bool.true_eq_false, Bool.false_eq_true, Bool.not_true, Bool.not_false, ite_true, ite_false, ↓reduceIte, Nat.reduceSub, Nat.reduceAdd, big, Nat.reduceLeDiff, Nat.zero_le, decide_true, decide_false, eq_self, wp_bd, ap_kW, wp_ok, wp_er, lpQ_nx, lpQ_ct, lpQ_bk, lpQ_rt, x_alt2, kAlt_ok, kAlt_er, kAlt_bad, x_altF, x_callO, ap_co1, ap_co2, isC_ins, x_methK, ap_mk1, ap_mk2, x_kw, ap_kw1, ap_kw2, x_heard, wp_noEr, x_lc, ap_lc, x_app, ap_app1, Nat.reduceLT, Nat.reduceBEq, beq_self_eq_true, kt0, kt1, kt2, kt3, kt4, kt5, kt6, kt7, kt8, kt9, kt10, kt11, kt12, kt13, kt14, kt15, kt16, kt17, kt18, kt19, kt20, kt21, kt22, kt23, kt24, kt25, kt26, kt27, kt28, kt29, kt30, kt31, kt32, kt33, kt34, kt35, kt36, kt37, kt38, kt39, kt40, kt41, kt42, kt43, kt44, kt45, kt46, kt47, kt48, kt49, kt50, kt51, kt52, kt53, kt54, kt55, kt56, kt57, kt58, kt59, kt60, kt61, kt62, kt63, kt64, kt65, kt66, kt67, kt68, kt69, kt70, kt71, kt72, kt73, kt74, kt75, kt76, kt77, kt78, kt79, kt80, kt81, kt82, kt83, kt84, kt85, kt86, kt87, kty, ko39, ke12, ke18, ke26, dIsi, kindOf, tagOf, clsTag]
theorem e_subN (h : dIsi kOwn kErs kTb [v, .cls 39] S = .ok (.bl false) S) : F_Stair_sub [st n g L, v] S = .er 18 [("part", .str "stair")] S := by
  unfold F_Stair_sub
  refine (x_run (by rfl)).trans ?_
  simp only [ap_f2, ap_cons, ap_cons2, ap_and, ap_or, ap_not, ap_if, ap_andV, ap_andV2, ap_orV, ap_orV2, ap_notV, ap_notV2, ap_ch1, ap_ch2, ap_ch3, ap_ch4, ap_lst, ap_tup, ap_lstM, ap_sl, ap_sl2, ap_ret, ap_drop, ap_set, ap_nx, ap_asg, ap_par, ap_par3, ap_r1, ap_r2, ap_si1, ap_si2, ap_si3, ap_sf1, ap_sf2, ap_for, ap_lcE, x_var, vK_some, x_c, x_f1, x_f2, x_nil, x_cons, x_and, x_or, x_not, x_if, x_andV, x_orV, x_notV, x_chain, x_lst, x_tup, x_lstM, x_sl, x_seq, sqK_nx, sqK_rt, sqK_bk, sqK_ct, x_ret, x_retN, x_drop, x_next, x_brk, x_cnt, x_set, x_asg, x_par, x_par3, x_raise1, x_raise2, x_setI, x_setF, endK_rt, endK_nx, x_for, x_bind, bd_ok, bd_er, bd_bad, bnd_bd, ret_ap, bad_ap, ite_ap, List.map_cons, List.map_nil, List.length_cons, List.length_nil, List.cons_append, List.nil_append, List.replicate, List.getElem?_cons_zero, List.getElem?_cons_succ, List.set_cons_zero, List.set_cons_succ, if_true, if_false, Bool.true_eq_false, Bool.false_eq_true, Bool.not_true, Bool.not_false, ite_true, ite_false, ↓reduceIte, Nat.reduceSub, Nat.reduceAdd, big, Nat.reduceLeDiff, Nat.zero_le, decide_true, decide_false, eq_self, wp_bd, ap_kW, wp_ok, wp_er, lpQ_nx, lpQ_ct, lpQ_bk, lpQ_rt, x_alt2, kAlt_ok, kAlt_er, kAlt_bad, x_altF, x_callO, ap_co1, ap_co2, isC_ins, x_methK, ap_mk1, ap_mk2, x_kw, ap_kw1, ap_kw2, x_heard, wp_noEr, x_lc, ap_lc, x_app, ap_app1, Nat.reduceLT, Nat.reduceBEq, beq_self_eq_true, m_need, e_needN h]
theorem e_leN (h : dIsi kOwn kErs kTb [v, .cls 39] S = .ok (.bl false) S) : F_Stair_le [st n g L, v] S = .er 18 [("part", .str "stair")] S := by
  unfold F_Stair_le
  refine (x_run (by rfl)).trans ?_
  simp only [ap_f2, ap_cons, ap_cons2, ap_and, ap_or, ap_not, ap_if, ap_andV, ap_andV2, ap_orV, ap_orV2, ap_notV, ap_notV2, ap_ch1, ap_ch2, ap_ch3, ap_ch4, ap_lst, ap_tup, ap_lstM, ap_sl, ap_sl2, ap_ret, ap_drop, ap_set, ap_nx, ap_asg, ap_par, ap_par3, ap_r1, ap_r2, ap_si1, ap_si2, ap_si3, ap_sf1, ap_sf2, ap_for, ap_lcE, x_var, vK_some, x_c, x_f1, x_f2, x_nil, x_cons, x_and, x_or, x_not, x_if, x_andV, x_orV, x_notV, x_chain, x_lst, x_tup, x_lstM, x_sl, x_seq, sqK_nx, sqK_rt, sqK_bk, sqK_ct, x_ret, x_retN, x_drop, x_next, x_brk, x_cnt, x_set, x_asg, x_par, x_par3, x_raise1, x_raise2, x_setI, x_setF, endK_rt, endK_nx, x_for, x_bind, bd_ok, bd_er, bd_bad, bnd_bd, ret_ap, bad_ap, ite_ap, List.map_cons, List.map_nil, List.length_cons, List.length_nil, List.cons_append, List.nil_append, List.replicate, List.getElem?_cons_zero, List.getElem?_cons_succ, List.set_cons_zero, List.set_cons_succ, if_true, if_false, Bool.true_eq_false, Bool.false_eq_true, Bool.not_true, Bool.not_false, ite_true, ite_false, ↓reduceIte, Nat.reduceSub, Nat.reduceAdd, big, Nat.reduceLeDiff, Nat.zero_le, decide_true, decide_false, eq_self, wp_bd, ap_kW, wp_ok, wp_er, lpQ_nx, lpQ_ct, lpQ_bk, lpQ_rt, x_alt2, kAlt_ok, kAlt_er, kAlt_bad, x_altF, x_callO, ap_co1, ap_co2, isC_ins, x_methK, ap_mk1, ap_mk2, x_kw, ap_kw1, ap_kw2, x_heard, wp_noEr, x_lc, ap_lc, x_app, ap_app1, Nat.reduceLT, Nat.reduceBEq, beq_self_eq_true, m_need, e_needN h]
theorem e_subU (h : n ≠ n') : F_Stair_sub [st n g L, st n' g' L'] S = .er 26 [("part", .str "length")] S := by
  unfold F_Stair_sub
  refine (x_run (by rfl)).trans ?_
  simp only [ap_f2, ap_cons, ap_cons2, ap_and, ap_or, ap_not, ap_if, ap_andV, ap_andV2, ap_orV, ap_orV2, ap_notV, ap_notV2, ap_ch1, ap_ch2, ap_ch3, ap_ch4, ap_lst, ap_tup, ap_lstM, ap_sl, ap_sl2, ap_ret, ap_drop, ap_set, ap_nx, ap_asg, ap_par, ap_par3, ap_r1, ap_r2, ap_si1, ap_si2, ap_si3, ap_sf1, ap_sf2, ap_for, ap_lcE, x_var, vK_some, x_c, x_f1, x_f2, x_nil, x_cons, x_and, x_or, x_not, x_if, x_andV, x_orV, x_notV, x_chain, x_lst, x_tup, x_lstM, x_sl, x_seq, sqK_nx, sqK_rt, sqK_bk, sqK_ct, x_ret, x_retN, x_drop, x_next, x_brk, x_cnt, x_set, x_asg, x_par, x_par3, x_raise1, x_raise2, x_setI, x_setF, endK_rt, endK_nx, x_for, x_bind, bd_ok, bd_er, bd_bad, bnd_bd, ret_ap, bad_ap, ite_ap, List.map_cons, List.map_nil, List.length_cons, List.length_nil, List.cons_append, List.nil_append, List.replicate, List.getElem?_cons_zero, List.getElem?_cons_succ, List.set_cons_zero, List.set_cons_succ, if_true, if_false, Bool.true_eq_false, Bool.false_eq_true, Bool.not_true, Bool.not_false, ite_true, ite_false, ↓reduceIte, Nat.reduceSub, Nat.reduceAdd, big, Nat.reduceLeDiff, Nat.zero_le, decide_true, decide_false, eq_self, wp_bd, ap_kW, wp_ok, wp_er, lpQ_nx, lpQ_ct, lpQ_bk, lpQ_rt, x_alt2, kAlt_ok, kAlt_er, kAlt_bad, x_altF, x_callO, ap_co1, ap_co2, isC_ins, x_methK, ap_mk1, ap_mk2, x_kw, ap_kw1, ap_kw2, x_heard, wp_noEr, x_lc, ap_lc, x_app, ap_app1, Nat.reduceLT, Nat.reduceBEq, beq_self_eq_true, m_need, e_needU h]
theorem e_leU (h : n ≠ n') : F_Stair_le [st n g L, st n' g' L'] S = .er 26 [("part", .str "length")] S := by
  unfold F_Stair_le
  refine (x_run (by rfl)).trans ?_
  simp only [ap_f2, ap_cons, ap_cons2, ap_and, ap_or, ap_not, ap_if, ap_andV, ap_andV2, ap_orV, ap_orV2, ap_notV, ap_notV2, ap_ch1, ap_ch2, ap_ch3, ap_ch4, ap_lst, ap_tup, ap_lstM, ap_sl, ap_sl2, ap_ret, ap_drop, ap_set, ap_nx, ap_asg, ap_par, ap_par3, ap_r1, ap_r2, ap_si1, ap_si2, ap_si3, ap_sf1, ap_sf2, ap_for, ap_lcE, x_var, vK_some, x_c, x_f1, x_f2, x_nil, x_cons, x_and, x_or, x_not, x_if, x_andV, x_orV, x_notV, x_chain, x_lst, x_tup, x_lstM, x_sl, x_seq, sqK_nx, sqK_rt, sqK_bk, sqK_ct, x_ret, x_retN, x_drop, x_next, x_brk, x_cnt, x_set, x_asg, x_par, x_par3, x_raise1, x_raise2, x_setI, x_setF, endK_rt, endK_nx, x_for, x_bind, bd_ok, bd_er, bd_bad, bnd_bd, ret_ap, bad_ap, ite_ap, List.map_cons, List.map_nil, List.length_cons, List.length_nil, List.cons_append, List.nil_append, List.replicate, List.getElem?_cons_zero, List.getElem?_cons_succ, List.set_cons_zero, List.set_cons_succ, if_true, if_false, Bool.true_eq_false, Bool.false_eq_true, Bool.not_true, Bool.not_false, ite_true, ite_false, ↓reduceIte, Nat.reduceSub, Nat.reduceAdd, big, Nat.reduceLeDiff, Nat.zero_le, decide_true, decide_false, eq_self, wp_bd, ap_kW, wp_ok, wp_er, lpQ_nx, lpQ_ct, lpQ_bk, lpQ_rt, x_alt2, kAlt_ok, kAlt_er, kAlt_bad, x_altF, x_callO, ap_co1, ap_co2, isC_ins, x_methK, ap_mk1, ap_mk2, x_kw, ap_kw1, ap_kw2, x_heard, wp_noEr, x_lc, ap_lc, x_app, ap_app1, Nat.reduceLT, Nat.reduceBEq, beq_self_eq_true, m_need, e_needU h]
theorem Strange.sub (h : Strange n' g' L' v) : dOwnLs 39 ["int", "bool", "str", "list", "tuple", "dict", "NoneType"] F_Stair_sub (st n g L) v S = .er 18 [("part", .str "stair")] S := by
  have e := e_subN (n := n) (g := g) (L := L) (h.isS (S := S))
  unfold dOwnLs
  rcases h with rfl | rfl | rfl | rfl | rfl | rfl | rfl | rfl
  all_goals
    simp only [st, asI, tagOf] at e ⊢
    rw [if_pos (by decide)]
    exact e
theorem Strange.le (h : Strange n' g' L' v) : dOwn 39 kOwn nfStair F_Stair_le (st n g L) v S = .er 18 [("part", .str "stair")] S := by
  have e := e_leN (n := n) (g := g) (L := L) (h.isS (S := S))
  unfold dOwn
  rcases h with rfl | rfl | rfl | rfl | rfl | rfl | rfl | rfl
  all_goals
    simp only [st, asI, tagOf] at e ⊢
    rw [if_pos (by decide)]
    exact e
theorem h_num {env : Env8} {fe : Env8 → M D} {z : Str} (he : fe env S = .er 12 [("value", v)] S) (hz : dRepr2 [v] S = .ok (.str z) S) : fHeard F_heard fe env S = .ok (.tup [.str "number", .str z]) S := by
  rw [x_heard]
  refine noEr_ok ?_
  unfold F_heard heardA
  rw [he]
  unfold hTail
  dsimp only
  rw [if_pos (by decide +kernel)]
  refine noEr_ok ?_
  rw [bnd_bd]
  simp only [ap_f2, ap_cons, ap_cons2, ap_and, ap_or, ap_not, ap_if, ap_andV, ap_andV2, ap_orV, ap_orV2, ap_notV, ap_notV2, ap_ch1, ap_ch2, ap_ch3, ap_ch4, ap_lst, ap_tup, ap_lstM, ap_sl, ap_sl2, ap_ret, ap_drop, ap_set, ap_nx, ap_asg, ap_par, ap_par3, ap_r1, ap_r2, ap_si1, ap_si2, ap_si3, ap_sf1, ap_sf2, ap_for, ap_lcE, x_var, vK_some, x_c, x_f1, x_f2, x_nil, x_cons, x_and, x_or, x_not, x_if, x_andV, x_orV, x_notV, x_chain, x_lst, x_tup, x_lstM, x_sl, x_seq, sqK_nx, sqK_rt, sqK_bk, sqK_ct, x_ret, x_retN, x_drop, x_next, x_brk, x_cnt, x_set, x_asg, x_par, x_par3, x_raise1, x_raise2, x_setI, x_setF, endK_rt, endK_nx, x_for, x_bind, bd_ok, bd_er, bd_bad, bnd_bd, ret_ap, bad_ap, ite_ap, List.map_cons, List.map_nil, List.length_cons, List.length_nil, List.cons_append, List.nil_append, List.replicate, List.getElem?_cons_zero, List.getElem?_cons_succ, List.set_cons_zero, List.set_cons_succ, if_true, if_false, Bool.true_eq_false, Bool.false_eq_true, Bool.not_true, Bool.not_false, ite_true, ite_false, ↓reduceIte, Nat.reduceSub, Nat.reduceAdd, big, Nat.reduceLeDiff, Nat.zero_le, decide_true, decide_false, eq_self, wp_bd, ap_kW, wp_ok, wp_er, lpQ_nx, lpQ_ct, lpQ_bk, lpQ_rt, x_alt2, kAlt_ok, kAlt_er, kAlt_bad, x_altF, x_callO, ap_co1, ap_co2, isC_ins, x_methK, ap_mk1, ap_mk2, x_kw, ap_kw1, ap_kw2, x_heard, wp_noEr, x_lc, ap_lc, x_app, ap_app1, Nat.reduceLT, Nat.reduceBEq, beq_self_eq_true, dBool, dAdd, dSub, dMul, dMod, dFdiv, dPow, dNeg, dLt, dLe, dGt, dGe, eqG_int, eqG_str, eqG_bl, xor_t, xor_f, dIsN, dNotN, dTru, dIx, dLen, dAbs, dInt, dStr, dMax2, dMin2, dMul8, dRep, dApp, app_get, app_set, putFD, lookF, lookC, str_inj, String.reduceEq, List.mem_cons, List.not_mem_nil, or_false, or_true, true_or, false_or, Nat.reduceEqDiff, and_self, true_and, and_true, Nat.reduceLT, dFld, dCon, asI, D.limF, D.lim, D.limL, Bool.and_true, Bool.true_and, fMeth, fMeth0, methOf, reduceCtorEq, Nat.zero_ne_one, Nat.one_ne_zero, kt0, kt1, kt2, kt3, kt4, kt5, kt6, kt7, kt8, kt9, kt10, kt11, kt12, kt13, kt14, kt15, kt16, kt17, kt18, kt19, kt20, kt21, kt22, kt23, kt24, kt25, kt26, kt27, kt28, kt29, kt30, kt31, kt32, kt33, kt34, kt35, kt36, kt37, kt38, kt39, kt40, kt41, kt42, kt43, kt44, kt45, kt46, kt47, kt48, kt49, kt50, kt51, kt52, kt53, kt54, kt55, kt56, kt57, kt58, kt59, kt60, kt61, kt62, kt63, kt64, kt65, kt66, kt67, kt68, kt69, kt70, kt71, kt72, kt73, kt74, kt75, kt76, kt77, kt78, kt79, kt80, kt81, kt82, kt83, kt84, kt85, kt86, kt87, kty, ko39, ke12, ke18, ke26, dIsi, kindOf, tagOf, clsTag, dErr, hz]
theorem h_ask {env : Env8} {fe : Env8 → M D} (he : fe env S = .er 18 [("part", .str "stair")] S) : fHeard F_heard fe env S = .ok (.tup [.str "ask", .str "stair"]) S := by
  rw [x_heard]
  refine noEr_ok ?_
  unfold F_heard heardA
  rw [he]
  unfold hTail
  dsimp only
  rw [if_pos (by decide +kernel)]
  refine noEr_ok ?_
  rw [bnd_bd]
  simp only [ap_f2, ap_cons, ap_cons2, ap_and, ap_or, ap_not, ap_if, ap_andV, ap_andV2, ap_orV, ap_orV2, ap_notV, ap_notV2, ap_ch1, ap_ch2, ap_ch3, ap_ch4, ap_lst, ap_tup, ap_lstM, ap_sl, ap_sl2, ap_ret, ap_drop, ap_set, ap_nx, ap_asg, ap_par, ap_par3, ap_r1, ap_r2, ap_si1, ap_si2, ap_si3, ap_sf1, ap_sf2, ap_for, ap_lcE, x_var, vK_some, x_c, x_f1, x_f2, x_nil, x_cons, x_and, x_or, x_not, x_if, x_andV, x_orV, x_notV, x_chain, x_lst, x_tup, x_lstM, x_sl, x_seq, sqK_nx, sqK_rt, sqK_bk, sqK_ct, x_ret, x_retN, x_drop, x_next, x_brk, x_cnt, x_set, x_asg, x_par, x_par3, x_raise1, x_raise2, x_setI, x_setF, endK_rt, endK_nx, x_for, x_bind, bd_ok, bd_er, bd_bad, bnd_bd, ret_ap, bad_ap, ite_ap, List.map_cons, List.map_nil, List.length_cons, List.length_nil, List.cons_append, List.nil_append, List.replicate, List.getElem?_cons_zero, List.getElem?_cons_succ, List.set_cons_zero, List.set_cons_succ, if_true, if_false, Bool.true_eq_false, Bool.false_eq_true, Bool.not_true, Bool.not_false, ite_true, ite_false, ↓reduceIte, Nat.reduceSub, Nat.reduceAdd, big, Nat.reduceLeDiff, Nat.zero_le, decide_true, decide_false, eq_self, wp_bd, ap_kW, wp_ok, wp_er, lpQ_nx, lpQ_ct, lpQ_bk, lpQ_rt, x_alt2, kAlt_ok, kAlt_er, kAlt_bad, x_altF, x_callO, ap_co1, ap_co2, isC_ins, x_methK, ap_mk1, ap_mk2, x_kw, ap_kw1, ap_kw2, x_heard, wp_noEr, x_lc, ap_lc, x_app, ap_app1, Nat.reduceLT, Nat.reduceBEq, beq_self_eq_true, dBool, dAdd, dSub, dMul, dMod, dFdiv, dPow, dNeg, dLt, dLe, dGt, dGe, eqG_int, eqG_str, eqG_bl, xor_t, xor_f, dIsN, dNotN, dTru, dIx, dLen, dAbs, dInt, dStr, dMax2, dMin2, dMul8, dRep, dApp, app_get, app_set, putFD, lookF, lookC, str_inj, String.reduceEq, List.mem_cons, List.not_mem_nil, or_false, or_true, true_or, false_or, Nat.reduceEqDiff, and_self, true_and, and_true, Nat.reduceLT, dFld, dCon, asI, D.limF, D.lim, D.limL, Bool.and_true, Bool.true_and, fMeth, fMeth0, methOf, reduceCtorEq, Nat.zero_ne_one, Nat.one_ne_zero, kt0, kt1, kt2, kt3, kt4, kt5, kt6, kt7, kt8, kt9, kt10, kt11, kt12, kt13, kt14, kt15, kt16, kt17, kt18, kt19, kt20, kt21, kt22, kt23, kt24, kt25, kt26, kt27, kt28, kt29, kt30, kt31, kt32, kt33, kt34, kt35, kt36, kt37, kt38, kt39, kt40, kt41, kt42, kt43, kt44, kt45, kt46, kt47, kt48, kt49, kt50, kt51, kt52, kt53, kt54, kt55, kt56, kt57, kt58, kt59, kt60, kt61, kt62, kt63, kt64, kt65, kt66, kt67, kt68, kt69, kt70, kt71, kt72, kt73, kt74, kt75, kt76, kt77, kt78, kt79, kt80, kt81, kt82, kt83, kt84, kt85, kt86, kt87, kty, ko39, ke12, ke18, ke26, dIsi, kindOf, tagOf, clsTag, dErr]
theorem h_unl {env : Env8} {fe : Env8 → M D} (he : fe env S = .er 26 [("part", .str "length")] S) : fHeard F_heard fe env S = .ok (.tup [.str "unlike", .str "length"]) S := by
  rw [x_heard]
  refine noEr_ok ?_
  unfold F_heard heardA
  rw [he]
  unfold hTail
  dsimp only
  rw [if_pos (by decide +kernel)]
  refine noEr_ok ?_
  rw [bnd_bd]
  simp only [ap_f2, ap_cons, ap_cons2, ap_and, ap_or, ap_not, ap_if, ap_andV, ap_andV2, ap_orV, ap_orV2, ap_notV, ap_notV2, ap_ch1, ap_ch2, ap_ch3, ap_ch4, ap_lst, ap_tup, ap_lstM, ap_sl, ap_sl2, ap_ret, ap_drop, ap_set, ap_nx, ap_asg, ap_par, ap_par3, ap_r1, ap_r2, ap_si1, ap_si2, ap_si3, ap_sf1, ap_sf2, ap_for, ap_lcE, x_var, vK_some, x_c, x_f1, x_f2, x_nil, x_cons, x_and, x_or, x_not, x_if, x_andV, x_orV, x_notV, x_chain, x_lst, x_tup, x_lstM, x_sl, x_seq, sqK_nx, sqK_rt, sqK_bk, sqK_ct, x_ret, x_retN, x_drop, x_next, x_brk, x_cnt, x_set, x_asg, x_par, x_par3, x_raise1, x_raise2, x_setI, x_setF, endK_rt, endK_nx, x_for, x_bind, bd_ok, bd_er, bd_bad, bnd_bd, ret_ap, bad_ap, ite_ap, List.map_cons, List.map_nil, List.length_cons, List.length_nil, List.cons_append, List.nil_append, List.replicate, List.getElem?_cons_zero, List.getElem?_cons_succ, List.set_cons_zero, List.set_cons_succ, if_true, if_false, Bool.true_eq_false, Bool.false_eq_true, Bool.not_true, Bool.not_false, ite_true, ite_false, ↓reduceIte, Nat.reduceSub, Nat.reduceAdd, big, Nat.reduceLeDiff, Nat.zero_le, decide_true, decide_false, eq_self, wp_bd, ap_kW, wp_ok, wp_er, lpQ_nx, lpQ_ct, lpQ_bk, lpQ_rt, x_alt2, kAlt_ok, kAlt_er, kAlt_bad, x_altF, x_callO, ap_co1, ap_co2, isC_ins, x_methK, ap_mk1, ap_mk2, x_kw, ap_kw1, ap_kw2, x_heard, wp_noEr, x_lc, ap_lc, x_app, ap_app1, Nat.reduceLT, Nat.reduceBEq, beq_self_eq_true, dBool, dAdd, dSub, dMul, dMod, dFdiv, dPow, dNeg, dLt, dLe, dGt, dGe, eqG_int, eqG_str, eqG_bl, xor_t, xor_f, dIsN, dNotN, dTru, dIx, dLen, dAbs, dInt, dStr, dMax2, dMin2, dMul8, dRep, dApp, app_get, app_set, putFD, lookF, lookC, str_inj, String.reduceEq, List.mem_cons, List.not_mem_nil, or_false, or_true, true_or, false_or, Nat.reduceEqDiff, and_self, true_and, and_true, Nat.reduceLT, dFld, dCon, asI, D.limF, D.lim, D.limL, Bool.and_true, Bool.true_and, fMeth, fMeth0, methOf, reduceCtorEq, Nat.zero_ne_one, Nat.one_ne_zero, kt0, kt1, kt2, kt3, kt4, kt5, kt6, kt7, kt8, kt9, kt10, kt11, kt12, kt13, kt14, kt15, kt16, kt17, kt18, kt19, kt20, kt21, kt22, kt23, kt24, kt25, kt26, kt27, kt28, kt29, kt30, kt31, kt32, kt33, kt34, kt35, kt36, kt37, kt38, kt39, kt40, kt41, kt42, kt43, kt44, kt45, kt46, kt47, kt48, kt49, kt50, kt51, kt52, kt53, kt54, kt55, kt56, kt57, kt58, kt59, kt60, kt61, kt62, kt63, kt64, kt65, kt66, kt67, kt68, kt69, kt70, kt71, kt72, kt73, kt74, kt75, kt76, kt77, kt78, kt79, kt80, kt81, kt82, kt83, kt84, kt85, kt86, kt87, kty, ko39, ke12, ke18, ke26, dIsi, kindOf, tagOf, clsTag, dErr]
theorem heard_eq {z : Str} {i : Nat} (hz : PyData.strOk z = true) (h : S[i]? = some (.lst [.tup [.str "number", .str z], .tup [.str "ask", .str "stair"], .tup [.str "ask", .str "stair"], .tup [.str "unlike", .str "length"], .tup [.str "unlike", .str "length"]])) :
    dEqG true (.loc i) (.lst [.tup [.str "number", .str z], .tup [.str "ask", .str "stair"], .tup [.str "ask", .str "stair"], .tup [.str "unlike", .str "length"], .tup [.str "unlike", .str "length"]]) S = .ok (.bl false) S := by
  have e : toPyL S [.tup [.str "number", .str z], .tup [.str "ask", .str "stair"], .tup [.str "ask", .str "stair"], .tup [.str "unlike", .str "length"], .tup [.str "unlike", .str "length"]] = some [.tuple [.str "number", .str z], .tuple [.str "ask", .str "stair"], .tuple [.str "ask", .str "stair"], .tuple [.str "unlike", .str "length"], .tuple [.str "unlike", .str "length"]] := by
    simp [toPyL, toPy]
  have hs : SeqAt.shaped (.list [.tuple [.str "number", .str z], .tuple [.str "ask", .str "stair"], .tuple [.str "ask", .str "stair"], .tuple [.str "unlike", .str "length"], .tuple [.str "unlike", .str "length"]]) = true := by
    have a1 : PyData.strOk "number" = true := by decide +kernel
    have a2 : PyData.strOk "ask" = true := by decide +kernel
    have a3 : PyData.strOk "stair" = true := by decide +kernel
    have a4 : PyData.strOk "unlike" = true := by decide +kernel
    have a5 : PyData.strOk "length" = true := by decide +kernel
    unfold SeqAt.shaped
    simp [PyData.canLay0, PyData.canLayAll0, PyData.depth, PyData.depthAll, a1, a2, a3, a4, a5, hz]
  rw [eqG_loc (n := true) h e e hs hs, SeqAt.eqv_refl _ (SeqAt.canLay_of_shaped hs)]
  rfl
theorem e_notin {ds : List D} (h : ∀ d ∈ ds, plainB d = true ∧ dIsi kOwn kErs kTb [d, .cls 39] S = .ok (.bl false) S) : dNotInB 39 F_Stair_eq (st n g L) (.lst ds) S = .ok (.bl true) S := by
  unfold dNotInB
  have hc : (39 : Nat) = 39 ∧ ∀ d ∈ ds, plainB d = true ∧ F_Stair_eq [.ins 39 (stF n g L), d] S = .ok (.bl false) S := ⟨rfl, fun d hd => ⟨(h d hd).1, e_seqN (n := n) (g := g) (L := L) (h d hd).2⟩⟩
  exact if_pos hc
end
end Ol

namespace Ol
open PySem L2 LamX
section
variable {S R : Store} {n g m n' g' c kk : Int} {L L' : List Int} {v d : D} {P : O} {k : Nat} {Q : D → Store → Prop} {X : XQ}
theorem w_refused (pn : Pn P (k + 4)) (ok : SOk n g L) (h : ∀ P', Pn P' k → Q (.bl true) [P']) : Wp (F_refused_right [.loc 0, .int n, pt g L] [P]) Q X := by
  have g30 : (0 ≤ (30 : Int) ∧ (30 : Int) ≤ 1000000 ∧ (10 : Int).natAbs < 2 ^ 64) = True := eq_true (by decide)
  obtain ⟨t, ht, t0, tb⟩ := t30b
  have cl0 : Clean [P] := Clean.nil.cons fun k => pn.lim k
  have m1 := e_made (n := n) (g := g) (L := L) (S := [P]) (cl0.all _)
  have m2 := e_made (n := n + 1) (g := g) (L := L) (S := [P]) (cl0.all _)
  unfold F_refused_right runG
  refine wp_gc ?_
  rw [x_run (by rfl)]
  simp only [ap_f2, ap_cons, ap_cons2, ap_and, ap_or, ap_not, ap_if, ap_andV, ap_andV2, ap_orV, ap_orV2, ap_notV, ap_notV2, ap_ch1, ap_ch2, ap_ch3, ap_ch4, ap_lst, ap_tup, ap_lstM, ap_sl, ap_sl2, ap_ret, ap_drop, ap_set, ap_nx, ap_asg, ap_par, ap_par3, ap_r1, ap_r2, ap_si1, ap_si2, ap_si3, ap_sf1, ap_sf2, ap_for, ap_lcE, x_var, vK_some, x_c, x_f1, x_f2, x_nil, x_cons, x_and, x_or, x_not, x_if, x_andV, x_orV, x_notV, x_chain, x_lst, x_tup, x_lstM, x_sl, x_seq, sqK_nx, sqK_rt, sqK_bk, sqK_ct, x_ret, x_retN, x_drop, x_next, x_brk, x_cnt, x_set, x_asg, x_par, x_par3, x_raise1, x_raise2, x_setI, x_setF, endK_rt, endK_nx, x_for, x_bind, bd_ok, bd_er, bd_bad, bnd_bd, ret_ap, bad_ap, ite_ap, List.map_cons, List.map_nil, List.length_cons, List.length_nil, List.cons_append, List.nil_append, List.replicate, List.getElem?_cons_zero, List.getElem?_cons_succ, List.set_cons_zero, List.set_cons_succ, if_true, if_false, Bool.true_eq_false, Bool.false_eq_true, Bool.not_true, Bool.not_false, ite_true, ite_false, ↓reduceIte, Nat.reduceSub, Nat.reduceAdd, big, Nat.reduceLeDiff, Nat.zero_le, decide_true, decide_false, eq_self, wp_bd, ap_kW, wp_ok, wp_er, lpQ_nx, lpQ_ct, lpQ_bk, lpQ_rt, kAlt_ok, kAlt_er, kAlt_bad, ap_co1, ap_co2, isC_ins, ap_mk1, ap_mk2, x_kw, ap_kw1, ap_kw2, wp_noEr, x_lc, ap_lc, x_app, ap_app1, Nat.reduceLT, Nat.reduceBEq, beq_self_eq_true, dBool, dAdd, dSub, dMul, dMod, dFdiv, dPow, dNeg, dLt, dLe, dGt, dGe, eqG_int, eqG_str, eqG_bl, xor_t, xor_f, dIsN, dNotN, dTru, dLen, dAbs, dInt, dStr, dMax2, dMin2, dMul8, dRep, dApp, m1, m2, bind_tp2, g30, ht]
  refine w_pick (m := k + 3) pn (by simp) (by simp) fun v P1 pn1 hv => ?_
  have hodd : Odd v := by
    simp only [List.mem_cons, List.not_mem_nil, or_false] at hv
    rcases hv with rfl | rfl | rfl | rfl | rfl | rfl | rfl | rfl | rfl
    · exact .inl rfl
    · exact .inr (.inl ⟨_, rfl, by decide, by decide⟩)
    · exact .inr (.inr (.inl rfl))
    · exact .inr (.inr (.inr (.inl rfl)))
    · exact .inr (.inr (.inr (.inr (.inl rfl))))
    · exact .inr (.inr (.inr (.inr (.inr (.inl rfl)))))
    · exact .inr (.inr (.inr (.inr (.inr (.inr (.inl rfl))))))
    · exact .inr (.inr (.inr (.inr (.inr (.inr (.inr rfl))))))
    · exact .inr (.inl ⟨_, rfl, by omega, tb⟩)
  clear hv
  obtain ⟨z, hz, zok⟩ := hodd.rep
  simp only [ap_f2, ap_cons, ap_cons2, ap_and, ap_or, ap_not, ap_if, ap_andV, ap_andV2, ap_orV, ap_orV2, ap_notV, ap_notV2, ap_ch1, ap_ch2, ap_ch3, ap_ch4, ap_lst, ap_tup, ap_lstM, ap_sl, ap_sl2, ap_ret, ap_drop, ap_set, ap_nx, ap_asg, ap_par, ap_par3, ap_r1, ap_r2, ap_si1, ap_si2, ap_si3, ap_sf1, ap_sf2, ap_for, ap_lcE, x_var, vK_some, x_c, x_f1, x_f2, x_nil, x_cons, x_and, x_or, x_not, x_if, x_andV, x_orV, x_notV, x_chain, x_lst, x_tup, x_lstM, x_sl, x_seq, sqK_nx, sqK_rt, sqK_bk, sqK_ct, x_ret, x_retN, x_drop, x_next, x_brk, x_cnt, x_set, x_asg, x_par, x_par3, x_raise1, x_raise2, x_setI, x_setF, endK_rt, endK_nx, x_for, x_bind, bd_ok, bd_er, bd_bad, bnd_bd, ret_ap, bad_ap, ite_ap, List.map_cons, List.map_nil, List.length_cons, List.length_nil, List.cons_append, List.nil_append, List.replicate, List.getElem?_cons_zero, List.getElem?_cons_succ, List.set_cons_zero, List.set_cons_succ, if_true, if_false, Bool.true_eq_false, Bool.false_eq_true, Bool.not_true, Bool.not_false, ite_true, ite_false, ↓reduceIte, Nat.reduceSub, Nat.reduceAdd, big, Nat.reduceLeDiff, Nat.zero_le, decide_true, decide_false, eq_self, wp_bd, ap_kW, wp_ok, wp_er, lpQ_nx, lpQ_ct, lpQ_bk, lpQ_rt, kAlt_ok, kAlt_er, kAlt_bad, ap_co1, ap_co2, isC_ins, ap_mk1, ap_mk2, x_kw, ap_kw1, ap_kw2, wp_noEr, x_lc, ap_lc, x_app, ap_app1, Nat.reduceLT, Nat.reduceBEq, beq_self_eq_true, dBool, dAdd, dSub, dMul, dMod, dFdiv, dPow, dNeg, dLt, dLe, dGt, dGe, eqG_int, eqG_str, eqG_bl, xor_t, xor_f, dIsN, dNotN, dTru, dLen, dAbs, dInt, dStr, dMax2, dMin2, dMul8, dRep, dApp]
  refine w_pick (m := k + 2) pn1 (by simp) (by simp) fun u P2 pn2 hv => ?_
  have hstr : Strange n g L u := by
    simp only [List.mem_cons, List.not_mem_nil, or_false] at hv
    exact hv
  clear hv
  have a1 : ∀ (S : Store) (env : Env8), env[6]? = some (some (st n g L)) → env[3]? = some (some v) → fHeard F_heard (fCallO 39 F_Stair_call (fVar 6) (fCons (fVar 3) fNil)) env S = .ok (.tup [.str "number", .str z]) S := fun S env a1 a2 =>
    h_num (by rw [c_st a1, x_var, a2, vK_some, bd_ok]; exact hodd.call) (hz S)
  have a2 : ∀ (S : Store) (env : Env8), env[6]? = some (some (st n g L)) → env[4]? = some (some u) → fHeard F_heard (f2 (dOwnLs 39 ["int", "bool", "str", "list", "tuple", "dict", "NoneType"] F_Stair_sub) (fVar 6) (fVar 4)) env S = .ok (.tup [.str "ask", .str "stair"]) S := fun S env a1 a2 =>
    h_ask (by rw [x_f2, x_var, a1, vK_some, bd_ok, ap_f2, x_var, a2, vK_some, bd_ok]; exact hstr.sub)
  have a3 : ∀ (S : Store) (env : Env8), env[6]? = some (some (st n g L)) → env[4]? = some (some u) → fHeard F_heard (f2 (dOwn 39 kOwn nfStair F_Stair_le) (fVar 6) (fVar 4)) env S = .ok (.tup [.str "ask", .str "stair"]) S := fun S env a1 a2 =>
    h_ask (by rw [x_f2, x_var, a1, vK_some, bd_ok, ap_f2, x_var, a2, vK_some, bd_ok]; exact hstr.le)
  have a4 : ∀ (S : Store) (env : Env8), env[6]? = some (some (st n g L)) → env[7]? = some (some (st (n + 1) g L)) → fHeard F_heard (f2 (dOwnS 39 F_Stair_sub) (fVar 6) (fVar 7)) env S = .ok (.tup [.str "unlike", .str "length"]) S := fun S env a1 a2 =>
    h_unl (by rw [x_f2, x_var, a1, vK_some, bd_ok, ap_f2, x_var, a2, vK_some, bd_ok, own_sub]; exact e_subU (by omega))
  have a5 : ∀ (S : Store) (env : Env8), env[6]? = some (some (st n g L)) → env[7]? = some (some (st (n + 1) g L)) → fHeard F_heard (f2 (dOwn 39 kOwn nfStair F_Stair_le) (fVar 7) (fVar 6)) env S = .ok (.tup [.str "unlike", .str "length"]) S := fun S env a1 a2 =>
    h_unl (by rw [x_f2, x_var, a2, vK_some, bd_ok, ap_f2, x_var, a1, vK_some, bd_ok, own_le]; exact e_leU (by omega))
  have heq := heard_eq (S := [P2, .lst [.tup [.str "number", .str z], .tup [.str "ask", .str "stair"], .tup [.str "ask", .str "stair"], .tup [.str "unlike", .str "length"], .tup [.str "unlike", .str "length"]]]) (i := 1) zok rfl
  have ml : ∀ S, dMul8 (.lst [.tup [.str "unlike", .str "length"]]) (.int 2) S = .ok (.lst [.tup [.str "unlike", .str "length"], .tup [.str "unlike", .str "length"]]) S := fun _ => rfl
  have nd : (n = n + 1) = False := eq_false (by omega)
  have ix1 : ∀ S, dIx (pt g L) (.int 1) S = .ok (.lst (L.map .int)) S := fun _ => rfl
  have ix0 : ∀ S, dIx (pt g L) (.int 0) S = .ok (.int g) S := fun _ => rfl
  have tp1 : ∀ S, dTuple [pt g L] S = .ok (pt g L) S := fun _ => rfl
  have tp2 : ∀ S, dTuple [.lst (L.map .int)] S = .ok (.tup (L.map .int)) S := fun _ => rfl
  have hlen : ∀ S, dLen [.lst (L.map .int)] S = .ok (.int L.length) S := fun S => by
    unfold dLen
    simp only [asL, List.length_map]
  have nin := e_notin (n := n) (g := g) (L := L) (S := [P2, .lst [.tup [.str "number", .str z], .tup [.str "ask", .str "stair"], .tup [.str "ask", .str "stair"], .tup [.str "unlike", .str "length"], .tup [.str "unlike", .str "length"]]]) (ds := [.non, .int 0, pt g L, .tup [.int n, .int g, .tup (L.map .int), .int L.length]]) fun d hd => by
    simp only [List.mem_cons, List.not_mem_nil, or_false] at hd
    rcases hd with rfl | rfl | rfl | rfl
    all_goals exact ⟨rfl, by simp only [pt, ap_f2, ap_cons, ap_cons2, ap_and, ap_or, ap_not, ap_if, ap_andV, ap_andV2, ap_orV, ap_orV2, ap_notV, ap_notV2, ap_ch1, ap_ch2, ap_ch3, ap_ch4, ap_lst, ap_tup, ap_lstM, ap_sl, ap_sl2, ap_ret, ap_drop, ap_set, ap_nx, ap_asg, ap_par, ap_par3, ap_r1, ap_r2, ap_si1, ap_si2, ap_si3, ap_sf1, ap_sf2, ap_for, ap_lcE, x_var, vK_some, x_c, x_f1, x_f2, x_nil, x_cons, x_and, x_or, x_not, x_if, x_andV, x_orV, x_notV, x_chain, x_lst, x_tup, x_lstM, x_sl, x_seq, sqK_nx, sqK_rt, sqK_bk, sqK_ct, x_ret, x_retN, x_drop, x_next, x_brk, x_cnt, x_set, x_asg, x_par, x_par3, x_raise1, x_raise2, x_setI, x_setF, endK_rt, endK_nx, x_for, x_bind, bd_ok, bd_er, bd_bad, bnd_bd, ret_ap, bad_ap, ite_ap, List.map_cons, List.map_nil, List.length_cons, List.length_nil, List.cons_append, List.nil_append, List.replicate, List.getElem?_cons_zero, List.getElem?_cons_succ, List.set_cons_zero, List.set_cons_succ, if_true, if_false, Bool.true_eq_false, Bool.false_eq_true, Bool.not_true, Bool.not_false, ite_true, ite_false, ↓reduceIte, Nat.reduceSub, Nat.reduceAdd, big, Nat.reduceLeDiff, Nat.zero_le, decide_true, decide_false, eq_self, wp_bd, ap_kW, wp_ok, wp_er, lpQ_nx, lpQ_ct, lpQ_bk, lpQ_rt, x_alt2, kAlt_ok, kAlt_er, kAlt_bad, x_altF, x_callO, ap_co1, ap_co2, isC_ins, x_methK, ap_mk1, ap_mk2, x_kw, ap_kw1, ap_kw2, x_heard, wp_noEr, x_lc, ap_lc, x_app, ap_app1, Nat.reduceLT, Nat.reduceBEq, beq_self_eq_true, kt0, kt1, kt2, kt3, kt4, kt5, kt6, kt7, kt8, kt9, kt10, kt11, kt12, kt13, kt14, kt15, kt16, kt17, kt18, kt19, kt20, kt21, kt22, kt23, kt24, kt25, kt26, kt27, kt28, kt29, kt30, kt31, kt32, kt33, kt34, kt35, kt36, kt37, kt38, kt39, kt40, kt41, kt42, kt43, kt44, kt45, kt46, kt47, kt48, kt49, kt50, kt51, kt52, kt53, kt54, kt55, kt56, kt57, kt58, kt59, kt60, kt61, kt62, kt63, kt64, kt65, kt66, kt67, kt68, kt69, kt70, kt71, kt72, kt73, kt74, kt75, kt76, kt77, kt78, kt79, kt80, kt81, kt82, kt83, kt84, kt85, kt86, kt87, kty, ko39, ke12, ke18, ke26, dIsi, kindOf, tagOf, clsTag]⟩
  simp only [ap_f2, ap_cons, ap_cons2, ap_and, ap_or, ap_not, ap_if, ap_andV, ap_andV2, ap_orV, ap_orV2, ap_notV, ap_notV2, ap_ch1, ap_ch2, ap_ch3, ap_ch4, ap_lst, ap_tup, ap_lstM, ap_sl, ap_sl2, ap_ret, ap_drop, ap_set, ap_nx, ap_asg, ap_par, ap_par3, ap_r1, ap_r2, ap_si1, ap_si2, ap_si3, ap_sf1, ap_sf2, ap_for, ap_lcE, x_var, vK_some, x_c, x_f1, x_f2, x_nil, x_cons, x_and, x_or, x_not, x_if, x_andV, x_orV, x_notV, x_chain, x_lst, x_tup, x_lstM, x_sl, x_seq, sqK_nx, sqK_rt, sqK_bk, sqK_ct, x_ret, x_retN, x_drop, x_next, x_brk, x_cnt, x_set, x_asg, x_par, x_par3, x_raise1, x_raise2, x_setI, x_setF, endK_rt, endK_nx, x_for, x_bind, bd_ok, bd_er, bd_bad, bnd_bd, ret_ap, bad_ap, ite_ap, List.map_cons, List.map_nil, List.length_cons, List.length_nil, List.cons_append, List.nil_append, List.replicate, List.getElem?_cons_zero, List.getElem?_cons_succ, List.set_cons_zero, List.set_cons_succ, if_true, if_false, Bool.true_eq_false, Bool.false_eq_true, Bool.not_true, Bool.not_false, ite_true, ite_false, ↓reduceIte, Nat.reduceSub, Nat.reduceAdd, big, Nat.reduceLeDiff, Nat.zero_le, decide_true, decide_false, eq_self, wp_bd, ap_kW, wp_ok, wp_er, lpQ_nx, lpQ_ct, lpQ_bk, lpQ_rt, kAlt_ok, kAlt_er, kAlt_bad, ap_co1, ap_co2, isC_ins, ap_mk1, ap_mk2, x_kw, ap_kw1, ap_kw2, wp_noEr, x_lc, ap_lc, x_app, ap_app1, Nat.reduceLT, Nat.reduceBEq, beq_self_eq_true, dBool, dAdd, dSub, dMul, dMod, dFdiv, dPow, dNeg, dLt, dLe, dGt, dGe, eqG_int, eqG_str, eqG_bl, xor_t, xor_f, dIsN, dNotN, dTru, dAbs, dInt, dStr, dMax2, dMin2, dMul8, dRep, dApp, asL, a1, a2, a3, a4, a5, hz, ml, heq, own_ne, nd, false_and, ix0, ix1, tp1, tp2, hlen, nin]
  refine ⟨rfl, ?_, ?_⟩
  · exact (Clean.nil.cons fun k => pn2.lim k : Clean [P2]).all _
  · exact h P2 (pn2.le (by omega))
end
end Ol

namespace Ol
open PySem L2 LamX
section
variable {S R : Store} {n g m n' g' c kk : Int} {L L' : List Int} {v d : D} {P : O} {k : Nat} {Q : D → Store → Prop} {X : XQ}
theorem cut_last (L : List Int) : cutD (L.map D.int) none (some (-1)) = (L.take (L.length - 1)).map .int := by
  have e1 : HT.sIx (L.map D.int).length 0 none = 0 := rfl
  have e2 : HT.sIx (L.map D.int).length (L.map D.int).length (some (-1)) = L.length - 1 := by
    unfold HT.sIx
    simp only [List.length_map]
    first | omega | (split <;> omega) | (simp; omega)
  unfold cutD
  rw [e1, e2, List.drop_zero, Nat.sub_zero, List.map_take]
theorem SOk.cut (ok : SOk n g L) : SOk n g (L.take (L.length - 1)) :=
  ⟨ok.a, ok.b, Nat.le_trans (by rw [List.length_take]; omega) ok.l, fun r hr => ok.r r (List.mem_of_mem_take hr), ok.s.sublist (List.take_sublist _ _)⟩
theorem w_turn (pn : Pn P (k + 60)) {p n0 x2 x3 x4 x5 x6 : Option D} (hp : p = some (.loc 0)) {J : Env8 → Store → Prop} {Q : Fl → Store → Prop} (h : ∀ P' y4 y5 y6, Pn P' k → J [n0, p, x2, x3, y4, y5, y6] [P']) : Wp (L_law_0 [n0, p, x2, x3, x4, x5, x6] [P]) (lpQ J Q) X := by
  subst hp
  have ix1 : ∀ g L S, dIx (pt g L) (.int 1) S = .ok (.lst (L.map .int)) S := fun _ _ _ => rfl
  have ix0 : ∀ g L S, dIx (pt g L) (.int 0) S = .ok (.int g) S := fun _ _ _ => rfl
  unfold L_law_0
  simp only [ap_f2, ap_cons, ap_cons2, ap_and, ap_or, ap_not, ap_if, ap_andV, ap_andV2, ap_orV, ap_orV2, ap_notV, ap_notV2, ap_ch1, ap_ch2, ap_ch3, ap_ch4, ap_lst, ap_tup, ap_lstM, ap_sl, ap_sl2, ap_ret, ap_drop, ap_set, ap_nx, ap_asg, ap_par, ap_par3, ap_r1, ap_r2, ap_si1, ap_si2, ap_si3, ap_sf1, ap_sf2, ap_for, ap_lcE, x_var, vK_some, x_c, x_f1, x_f2, x_nil, x_cons, x_and, x_or, x_not, x_if, x_andV, x_orV, x_notV, x_chain, x_lst, x_tup, x_lstM, x_sl, x_seq, sqK_nx, sqK_rt, sqK_bk, sqK_ct, x_ret, x_retN, x_drop, x_next, x_brk, x_cnt, x_set, x_asg, x_par, x_par3, x_raise1, x_raise2, x_setI, x_setF, endK_rt, endK_nx, x_for, x_bind, bd_ok, bd_er, bd_bad, bnd_bd, ret_ap, bad_ap, ite_ap, List.map_cons, List.map_nil, List.length_cons, List.length_nil, List.cons_append, List.nil_append, List.replicate, List.getElem?_cons_zero, List.getElem?_cons_succ, List.set_cons_zero, List.set_cons_succ, if_true, if_false, Bool.true_eq_false, Bool.false_eq_true, Bool.not_true, Bool.not_false, ite_true, ite_false, ↓reduceIte, Nat.reduceSub, Nat.reduceAdd, big, Nat.reduceLeDiff, Nat.zero_le, decide_true, decide_false, eq_self, wp_bd, ap_kW, wp_ok, wp_er, lpQ_nx, lpQ_ct, lpQ_bk, lpQ_rt, kAlt_ok, kAlt_er, kAlt_bad, ap_co1, ap_co2, isC_ins, ap_mk1, ap_mk2, x_kw, ap_kw1, ap_kw2, wp_noEr, x_lc, ap_lc, x_app, ap_app1, Nat.reduceLT, Nat.reduceBEq, beq_self_eq_true, dBool, dAdd, dSub, dMul, dMod, dFdiv, dPow, dNeg, dLt, dLe, dGt, dGe, eqG_int, eqG_str, eqG_bl, xor_t, xor_f, dIsN, dNotN, dTru, dLen, dAbs, dInt, dStr, dMax2, dMin2, dMul8, dRep, dApp]
  refine w_draw (m := k + 59) pn (by decide) (by decide) fun d P1 pn1 d0 d1 => ?_
  simp only [ap_f2, ap_cons, ap_cons2, ap_and, ap_or, ap_not, ap_if, ap_andV, ap_andV2, ap_orV, ap_orV2, ap_notV, ap_notV2, ap_ch1, ap_ch2, ap_ch3, ap_ch4, ap_lst, ap_tup, ap_lstM, ap_sl, ap_sl2, ap_ret, ap_drop, ap_set, ap_nx, ap_asg, ap_par, ap_par3, ap_r1, ap_r2, ap_si1, ap_si2, ap_si3, ap_sf1, ap_sf2, ap_for, ap_lcE, x_var, vK_some, x_c, x_f1, x_f2, x_nil, x_cons, x_and, x_or, x_not, x_if, x_andV, x_orV, x_notV, x_chain, x_lst, x_tup, x_lstM, x_sl, x_seq, sqK_nx, sqK_rt, sqK_bk, sqK_ct, x_ret, x_retN, x_drop, x_next, x_brk, x_cnt, x_set, x_asg, x_par, x_par3, x_raise1, x_raise2, x_setI, x_setF, endK_rt, endK_nx, x_for, x_bind, bd_ok, bd_er, bd_bad, bnd_bd, ret_ap, bad_ap, ite_ap, List.map_cons, List.map_nil, List.length_cons, List.length_nil, List.cons_append, List.nil_append, List.replicate, List.getElem?_cons_zero, List.getElem?_cons_succ, List.set_cons_zero, List.set_cons_succ, if_true, if_false, Bool.true_eq_false, Bool.false_eq_true, Bool.not_true, Bool.not_false, ite_true, ite_false, ↓reduceIte, Nat.reduceSub, Nat.reduceAdd, big, Nat.reduceLeDiff, Nat.zero_le, decide_true, decide_false, eq_self, wp_bd, ap_kW, wp_ok, wp_er, lpQ_nx, lpQ_ct, lpQ_bk, lpQ_rt, kAlt_ok, kAlt_er, kAlt_bad, ap_co1, ap_co2, isC_ins, ap_mk1, ap_mk2, x_kw, ap_kw1, ap_kw2, wp_noEr, x_lc, ap_lc, x_app, ap_app1, Nat.reduceLT, Nat.reduceBEq, beq_self_eq_true, dBool, dAdd, dSub, dMul, dMod, dFdiv, dPow, dNeg, dLt, dLe, dGt, dGe, eqG_int, eqG_str, eqG_bl, xor_t, xor_f, dIsN, dNotN, dTru, dLen, dAbs, dInt, dStr, dMax2, dMin2, dMul8, dRep, dApp]
  refine w_pick (m := k + 58) pn1 (by simp) (by simp) fun v P2 pn2 hv => ?_
  have hs : ∃ s : Int, v = .int s ∧ 1 ≤ s ∧ s ≤ 100 := by
    simp only [List.mem_cons, List.not_mem_nil, or_false] at hv
    rcases hv with rfl | rfl | rfl | rfl | rfl
    all_goals exact ⟨_, rfl, by omega, by omega⟩
  clear hv
  obtain ⟨s, rfl, s0, s1⟩ := hs
  simp only [ap_f2, ap_cons, ap_cons2, ap_and, ap_or, ap_not, ap_if, ap_andV, ap_andV2, ap_orV, ap_orV2, ap_notV, ap_notV2, ap_ch1, ap_ch2, ap_ch3, ap_ch4, ap_lst, ap_tup, ap_lstM, ap_sl, ap_sl2, ap_ret, ap_drop, ap_set, ap_nx, ap_asg, ap_par, ap_par3, ap_r1, ap_r2, ap_si1, ap_si2, ap_si3, ap_sf1, ap_sf2, ap_for, ap_lcE, x_var, vK_some, x_c, x_f1, x_f2, x_nil, x_cons, x_and, x_or, x_not, x_if, x_andV, x_orV, x_notV, x_chain, x_lst, x_tup, x_lstM, x_sl, x_seq, sqK_nx, sqK_rt, sqK_bk, sqK_ct, x_ret, x_retN, x_drop, x_next, x_brk, x_cnt, x_set, x_asg, x_par, x_par3, x_raise1, x_raise2, x_setI, x_setF, endK_rt, endK_nx, x_for, x_bind, bd_ok, bd_er, bd_bad, bnd_bd, ret_ap, bad_ap, ite_ap, List.map_cons, List.map_nil, List.length_cons, List.length_nil, List.cons_append, List.nil_append, List.replicate, List.getElem?_cons_zero, List.getElem?_cons_succ, List.set_cons_zero, List.set_cons_succ, if_true, if_false, Bool.true_eq_false, Bool.false_eq_true, Bool.not_true, Bool.not_false, ite_true, ite_false, ↓reduceIte, Nat.reduceSub, Nat.reduceAdd, big, Nat.reduceLeDiff, Nat.zero_le, decide_true, decide_false, eq_self, wp_bd, ap_kW, wp_ok, wp_er, lpQ_nx, lpQ_ct, lpQ_bk, lpQ_rt, kAlt_ok, kAlt_er, kAlt_bad, ap_co1, ap_co2, isC_ins, ap_mk1, ap_mk2, x_kw, ap_kw1, ap_kw2, wp_noEr, x_lc, ap_lc, x_app, ap_app1, Nat.reduceLT, Nat.reduceBEq, beq_self_eq_true, dBool, dAdd, dSub, dMul, dMod, dFdiv, dPow, dNeg, dLt, dLe, dGt, dGe, eqG_int, eqG_str, eqG_bl, xor_t, xor_f, dIsN, dNotN, dTru, dLen, dAbs, dInt, dStr, dMax2, dMin2, dMul8, dRep, dApp]
  refine w_parts (k := k + 48) pn2 ⟨s0, s1⟩ fun g L P3 ok gl gh pn3 => ?_
  simp only [ap_f2, ap_cons, ap_cons2, ap_and, ap_or, ap_not, ap_if, ap_andV, ap_andV2, ap_orV, ap_orV2, ap_notV, ap_notV2, ap_ch1, ap_ch2, ap_ch3, ap_ch4, ap_lst, ap_tup, ap_lstM, ap_sl, ap_sl2, ap_ret, ap_drop, ap_set, ap_nx, ap_asg, ap_par, ap_par3, ap_r1, ap_r2, ap_si1, ap_si2, ap_si3, ap_sf1, ap_sf2, ap_for, ap_lcE, x_var, vK_some, x_c, x_f1, x_f2, x_nil, x_cons, x_and, x_or, x_not, x_if, x_andV, x_orV, x_notV, x_chain, x_lst, x_tup, x_lstM, x_sl, x_seq, sqK_nx, sqK_rt, sqK_bk, sqK_ct, x_ret, x_retN, x_drop, x_next, x_brk, x_cnt, x_set, x_asg, x_par, x_par3, x_raise1, x_raise2, x_setI, x_setF, endK_rt, endK_nx, x_for, x_bind, bd_ok, bd_er, bd_bad, bnd_bd, ret_ap, bad_ap, ite_ap, List.map_cons, List.map_nil, List.length_cons, List.length_nil, List.cons_append, List.nil_append, List.replicate, List.getElem?_cons_zero, List.getElem?_cons_succ, List.set_cons_zero, List.set_cons_succ, if_true, if_false, Bool.true_eq_false, Bool.false_eq_true, Bool.not_true, Bool.not_false, ite_true, ite_false, ↓reduceIte, Nat.reduceSub, Nat.reduceAdd, big, Nat.reduceLeDiff, Nat.zero_le, decide_true, decide_false, eq_self, wp_bd, ap_kW, wp_ok, wp_er, lpQ_nx, lpQ_ct, lpQ_bk, lpQ_rt, kAlt_ok, kAlt_er, kAlt_bad, ap_co1, ap_co2, isC_ins, ap_mk1, ap_mk2, x_kw, ap_kw1, ap_kw2, wp_noEr, x_lc, ap_lc, x_app, ap_app1, Nat.reduceLT, Nat.reduceBEq, beq_self_eq_true, dBool, dAdd, dSub, dMul, dMod, dFdiv, dPow, dNeg, dLt, dLe, dGt, dGe, eqG_int, eqG_str, eqG_bl, xor_t, xor_f, dIsN, dNotN, dTru, dLen, dAbs, dInt, dStr, dMax2, dMin2, dMul8, dRep, dApp]
  refine w_parts (k := k + 38) pn3 ⟨s0, s1⟩ fun g' L' P4 ok' gl' gh' pn4 => ?_
  simp only [ap_f2, ap_cons, ap_cons2, ap_and, ap_or, ap_not, ap_if, ap_andV, ap_andV2, ap_orV, ap_orV2, ap_notV, ap_notV2, ap_ch1, ap_ch2, ap_ch3, ap_ch4, ap_lst, ap_tup, ap_lstM, ap_sl, ap_sl2, ap_ret, ap_drop, ap_set, ap_nx, ap_asg, ap_par, ap_par3, ap_r1, ap_r2, ap_si1, ap_si2, ap_si3, ap_sf1, ap_sf2, ap_for, ap_lcE, x_var, vK_some, x_c, x_f1, x_f2, x_nil, x_cons, x_and, x_or, x_not, x_if, x_andV, x_orV, x_notV, x_chain, x_lst, x_tup, x_lstM, x_sl, x_seq, sqK_nx, sqK_rt, sqK_bk, sqK_ct, x_ret, x_retN, x_drop, x_next, x_brk, x_cnt, x_set, x_asg, x_par, x_par3, x_raise1, x_raise2, x_setI, x_setF, endK_rt, endK_nx, x_for, x_bind, bd_ok, bd_er, bd_bad, bnd_bd, ret_ap, bad_ap, ite_ap, List.map_cons, List.map_nil, List.length_cons, List.length_nil, List.cons_append, List.nil_append, List.replicate, List.getElem?_cons_zero, List.getElem?_cons_succ, List.set_cons_zero, List.set_cons_succ, if_true, if_false, Bool.true_eq_false, Bool.false_eq_true, Bool.not_true, Bool.not_false, ite_true, ite_false, ↓reduceIte, Nat.reduceSub, Nat.reduceAdd, big, Nat.reduceLeDiff, Nat.zero_le, decide_true, decide_false, eq_self, wp_bd, ap_kW, wp_ok, wp_er, lpQ_nx, lpQ_ct, lpQ_bk, lpQ_rt, kAlt_ok, kAlt_er, kAlt_bad, ap_co1, ap_co2, isC_ins, ap_mk1, ap_mk2, x_kw, ap_kw1, ap_kw2, wp_noEr, x_lc, ap_lc, x_app, ap_app1, Nat.reduceLT, Nat.reduceBEq, beq_self_eq_true, dBool, dAdd, dSub, dMul, dMod, dFdiv, dPow, dNeg, dLt, dLe, dGt, dGe, eqG_int, eqG_str, eqG_bl, xor_t, xor_f, dIsN, dNotN, dTru, dLen, dAbs, dInt, dStr, dMax2, dMin2, dMul8, dRep, dApp, ix0, ix1, dPart, dSl, asL, cut_last]
  refine w_pick (m := k + 37) pn4 (by simp) (by simp) fun v P5 pn5 hv => ?_
  have hm : ∃ g2 L2, v = pt g2 L2 ∧ SOk s g2 L2 := by
    simp only [List.mem_cons, List.not_mem_nil, or_false] at hv
    rcases hv with rfl | rfl | rfl | rfl | rfl
    · exact ⟨_, _, rfl, ok'⟩
    · exact ⟨_, _, rfl, ok'⟩
    · exact ⟨_, _, rfl, ok⟩
    · exact ⟨_, _, rfl, ⟨ok.a, by omega, ok.l, ok.r, ok.s⟩⟩
    · exact ⟨_, _, rfl, ok.cut⟩
  clear hv
  obtain ⟨g2, L2, rfl, ok2⟩ := hm
  simp only [ap_f2, ap_cons, ap_cons2, ap_and, ap_or, ap_not, ap_if, ap_andV, ap_andV2, ap_orV, ap_orV2, ap_notV, ap_notV2, ap_ch1, ap_ch2, ap_ch3, ap_ch4, ap_lst, ap_tup, ap_lstM, ap_sl, ap_sl2, ap_ret, ap_drop, ap_set, ap_nx, ap_asg, ap_par, ap_par3, ap_r1, ap_r2, ap_si1, ap_si2, ap_si3, ap_sf1, ap_sf2, ap_for, ap_lcE, x_var, vK_some, x_c, x_f1, x_f2, x_nil, x_cons, x_and, x_or, x_not, x_if, x_andV, x_orV, x_notV, x_chain, x_lst, x_tup, x_lstM, x_sl, x_seq, sqK_nx, sqK_rt, sqK_bk, sqK_ct, x_ret, x_retN, x_drop, x_next, x_brk, x_cnt, x_set, x_asg, x_par, x_par3, x_raise1, x_raise2, x_setI, x_setF, endK_rt, endK_nx, x_for, x_bind, bd_ok, bd_er, bd_bad, bnd_bd, ret_ap, bad_ap, ite_ap, List.map_cons, List.map_nil, List.length_cons, List.length_nil, List.cons_append, List.nil_append, List.replicate, List.getElem?_cons_zero, List.getElem?_cons_succ, List.set_cons_zero, List.set_cons_succ, if_true, if_false, Bool.true_eq_false, Bool.false_eq_true, Bool.not_true, Bool.not_false, ite_true, ite_false, ↓reduceIte, Nat.reduceSub, Nat.reduceAdd, big, Nat.reduceLeDiff, Nat.zero_le, decide_true, decide_false, eq_self, wp_bd, ap_kW, wp_ok, wp_er, lpQ_nx, lpQ_ct, lpQ_bk, lpQ_rt, kAlt_ok, kAlt_er, kAlt_bad, ap_co1, ap_co2, isC_ins, ap_mk1, ap_mk2, x_kw, ap_kw1, ap_kw2, wp_noEr, x_lc, ap_lc, x_app, ap_app1, Nat.reduceLT, Nat.reduceBEq, beq_self_eq_true, dBool, dAdd, dSub, dMul, dMod, dFdiv, dPow, dNeg, dLt, dLe, dGt, dGe, eqG_int, eqG_str, eqG_bl, xor_t, xor_f, dIsN, dNotN, dTru, dLen, dAbs, dInt, dStr, dMax2, dMin2, dMul8, dRep, dApp]
  refine w_one (k := k + 30) (pn5.le (by omega)) ok fun P6 pn6 => ?_
  have cl : Clean [P6] := Clean.nil.cons fun k => pn6.lim k
  have t1 := w_two (S := [P6]) ok ok2 (cl.all _)
  have t2 := w_two (S := [P6]) ok2 ok (cl.all _)
  simp only [ap_f2, ap_cons, ap_cons2, ap_and, ap_or, ap_not, ap_if, ap_andV, ap_andV2, ap_orV, ap_orV2, ap_notV, ap_notV2, ap_ch1, ap_ch2, ap_ch3, ap_ch4, ap_lst, ap_tup, ap_lstM, ap_sl, ap_sl2, ap_ret, ap_drop, ap_set, ap_nx, ap_asg, ap_par, ap_par3, ap_r1, ap_r2, ap_si1, ap_si2, ap_si3, ap_sf1, ap_sf2, ap_for, ap_lcE, x_var, vK_some, x_c, x_f1, x_f2, x_nil, x_cons, x_and, x_or, x_not, x_if, x_andV, x_orV, x_notV, x_chain, x_lst, x_tup, x_lstM, x_sl, x_seq, sqK_nx, sqK_rt, sqK_bk, sqK_ct, x_ret, x_retN, x_drop, x_next, x_brk, x_cnt, x_set, x_asg, x_par, x_par3, x_raise1, x_raise2, x_setI, x_setF, endK_rt, endK_nx, x_for, x_bind, bd_ok, bd_er, bd_bad, bnd_bd, ret_ap, bad_ap, ite_ap, List.map_cons, List.map_nil, List.length_cons, List.length_nil, List.cons_append, List.nil_append, List.replicate, List.getElem?_cons_zero, List.getElem?_cons_succ, List.set_cons_zero, List.set_cons_succ, if_true, if_false, Bool.true_eq_false, Bool.false_eq_true, Bool.not_true, Bool.not_false, ite_true, ite_false, ↓reduceIte, Nat.reduceSub, Nat.reduceAdd, big, Nat.reduceLeDiff, Nat.zero_le, decide_true, decide_false, eq_self, wp_bd, ap_kW, wp_ok, wp_er, lpQ_nx, lpQ_ct, lpQ_bk, lpQ_rt, kAlt_ok, kAlt_er, kAlt_bad, ap_co1, ap_co2, isC_ins, ap_mk1, ap_mk2, x_kw, ap_kw1, ap_kw2, wp_noEr, x_lc, ap_lc, x_app, ap_app1, Nat.reduceLT, Nat.reduceBEq, beq_self_eq_true, dBool, dAdd, dSub, dMul, dMod, dFdiv, dPow, dNeg, dLt, dLe, dGt, dGe, eqG_int, eqG_str, eqG_bl, xor_t, xor_f, dIsN, dNotN, dTru, dLen, dAbs, dInt, dStr, dMax2, dMin2, dMul8, dRep, dApp, t1, t2]
  refine w_refused (k := k + 20) (pn6.le (by omega)) ok fun P7 pn7 => ?_
  simp only [ap_f2, ap_cons, ap_cons2, ap_and, ap_or, ap_not, ap_if, ap_andV, ap_andV2, ap_orV, ap_orV2, ap_notV, ap_notV2, ap_ch1, ap_ch2, ap_ch3, ap_ch4, ap_lst, ap_tup, ap_lstM, ap_sl, ap_sl2, ap_ret, ap_drop, ap_set, ap_nx, ap_asg, ap_par, ap_par3, ap_r1, ap_r2, ap_si1, ap_si2, ap_si3, ap_sf1, ap_sf2, ap_for, ap_lcE, x_var, vK_some, x_c, x_f1, x_f2, x_nil, x_cons, x_and, x_or, x_not, x_if, x_andV, x_orV, x_notV, x_chain, x_lst, x_tup, x_lstM, x_sl, x_seq, sqK_nx, sqK_rt, sqK_bk, sqK_ct, x_ret, x_retN, x_drop, x_next, x_brk, x_cnt, x_set, x_asg, x_par, x_par3, x_raise1, x_raise2, x_setI, x_setF, endK_rt, endK_nx, x_for, x_bind, bd_ok, bd_er, bd_bad, bnd_bd, ret_ap, bad_ap, ite_ap, List.map_cons, List.map_nil, List.length_cons, List.length_nil, List.cons_append, List.nil_append, List.replicate, List.getElem?_cons_zero, List.getElem?_cons_succ, List.set_cons_zero, List.set_cons_succ, if_true, if_false, Bool.true_eq_false, Bool.false_eq_true, Bool.not_true, Bool.not_false, ite_true, ite_false, ↓reduceIte, Nat.reduceSub, Nat.reduceAdd, big, Nat.reduceLeDiff, Nat.zero_le, decide_true, decide_false, eq_self, wp_bd, ap_kW, wp_ok, wp_er, lpQ_nx, lpQ_ct, lpQ_bk, lpQ_rt, kAlt_ok, kAlt_er, kAlt_bad, ap_co1, ap_co2, isC_ins, ap_mk1, ap_mk2, x_kw, ap_kw1, ap_kw2, wp_noEr, x_lc, ap_lc, x_app, ap_app1, Nat.reduceLT, Nat.reduceBEq, beq_self_eq_true, dBool, dAdd, dSub, dMul, dMod, dFdiv, dPow, dNeg, dLt, dLe, dGt, dGe, eqG_int, eqG_str, eqG_bl, xor_t, xor_f, dIsN, dNotN, dTru, dLen, dAbs, dInt, dStr, dMax2, dMin2, dMul8, dRep, dApp]
  exact h _ _ _ _ (pn7.le (by omega))
theorem rng6 : dRange1 [.int 6] S = .ok [.int 0, .int 1, .int 2, .int 3, .int 4, .int 5] S := rfl
theorem law_plain {ns : List Int} (h : ns.length ≤ 63) : ∃ S, F_law [.scr ns] [] = .ok (.bl true) S := by
  obtain ⟨P, e1, pn⟩ := e_pen h
  have w : Wp (F_law [.scr ns] []) (fun d _ => d = .bl true) NoX := by
    unfold F_law
    rw [x_run (by rfl)]
    simp only [ap_f2, ap_cons, ap_cons2, ap_and, ap_or, ap_not, ap_if, ap_andV, ap_andV2, ap_orV, ap_orV2, ap_notV, ap_notV2, ap_ch1, ap_ch2, ap_ch3, ap_ch4, ap_lst, ap_tup, ap_lstM, ap_sl, ap_sl2, ap_ret, ap_drop, ap_set, ap_nx, ap_asg, ap_par, ap_par3, ap_r1, ap_r2, ap_si1, ap_si2, ap_si3, ap_sf1, ap_sf2, ap_for, ap_lcE, x_var, vK_some, x_c, x_f1, x_f2, x_nil, x_cons, x_and, x_or, x_not, x_if, x_andV, x_orV, x_notV, x_chain, x_lst, x_tup, x_lstM, x_sl, x_seq, sqK_nx, sqK_rt, sqK_bk, sqK_ct, x_ret, x_retN, x_drop, x_next, x_brk, x_cnt, x_set, x_asg, x_par, x_par3, x_raise1, x_raise2, x_setI, x_setF, endK_rt, endK_nx, x_for, x_bind, bd_ok, bd_er, bd_bad, bnd_bd, ret_ap, bad_ap, ite_ap, List.map_cons, List.map_nil, List.length_cons, List.length_nil, List.cons_append, List.nil_append, List.replicate, List.getElem?_cons_zero, List.getElem?_cons_succ, List.set_cons_zero, List.set_cons_succ, if_true, if_false, Bool.true_eq_false, Bool.false_eq_true, Bool.not_true, Bool.not_false, ite_true, ite_false, ↓reduceIte, Nat.reduceSub, Nat.reduceAdd, big, Nat.reduceLeDiff, Nat.zero_le, decide_true, decide_false, eq_self, wp_bd, ap_kW, wp_ok, wp_er, lpQ_nx, lpQ_ct, lpQ_bk, lpQ_rt, kAlt_ok, kAlt_er, kAlt_bad, ap_co1, ap_co2, isC_ins, ap_mk1, ap_mk2, x_kw, ap_kw1, ap_kw2, wp_noEr, x_lc, ap_lc, x_app, ap_app1, Nat.reduceLT, Nat.reduceBEq, beq_self_eq_true, dBool, dAdd, dSub, dMul, dMod, dFdiv, dPow, dNeg, dLt, dLe, dGt, dGe, eqG_int, eqG_str, eqG_bl, xor_t, xor_f, dIsN, dNotN, dTru, dIx, dLen, dAbs, dInt, dStr, dMax2, dMin2, dMul8, dRep, dApp, e1, rng6]
    refine wp_loop (fun i e S => ∃ P' x2 x4 x5 x6, e = [some (.scr ns), some (.loc 0), x2, none, x4, x5, x6] ∧ S = [P'] ∧ Pn P' (4000000 - 60 * i)) ⟨P, _, _, _, _, rfl, rfl, pn⟩ (fun j v e S hj hI => ?_) fun e S hI => ?_
    · obtain ⟨P', x2, x4, x5, x6, rfl, rfl, pn'⟩ := hI
      have hj9 : j < 6 := (List.getElem?_eq_some_iff.mp hj).1
      exact ⟨_, x_bind, w_turn (k := 4000000 - 60 * (j + 1)) (pn'.le (by omega)) rfl fun P'' y4 y5 y6 pn'' => ⟨P'', _, _, _, _, rfl, rfl, pn''⟩⟩
    · obtain ⟨P', x2, x4, x5, x6, rfl, rfl, pn'⟩ := hI
      have cl : Clean [P'] := Clean.nil.cons fun k => pn'.lim k
      have okb : SOk 24 1 [2, 20] := ⟨by decide, by decide, by decide, by unfold Rs; decide, by unfold Srt; decide⟩
      have mk := e_mk (n := 24) (g := 1) (L := [2, 20]) (S := [P']) 2 rfl (cl.all _)
      simp only [List.map_cons, List.map_nil] at mk
      have cs := fun (S : Store) (env : Env8) (fa : Env8 → M D) (h : env[3]? = some (some (st 24 1 [2, 20]))) => c_st (S := S) (fa := fa) h
      have ms := fun (S : Store) (env : Env8) (fa : Env8 → M D) (h : env[3]? = some (some (st 24 1 [2, 20]))) => m_lp (S := S) (fa := fa) h
      have v0 : F_Stair_call [st 24 1 [2, 20], .int 0] [P'] = .ok (.int 1) [P'] := e_call okb (by decide)
      have v1 : F_Stair_call [st 24 1 [2, 20], .int 2] [P'] = .ok (.int 2) [P'] := e_call okb (by decide)
      have v2 : F_Stair_call [st 24 1 [2, 20], .int 24] [P'] = .ok (.int 3) [P'] := e_call okb (by decide)
      have v3 : F_Stair_call [st 24 1 [2, 20], .int 26] [P'] = .ok (.int 4) [P'] := e_call okb (by decide)
      have v4 : F_Stair_longest_pause [st 24 1 [2, 20], .int 2] [P'] = .ok (.int 19) [P'] := e_lp okb (by decide) (by decide)
      have v5 : F_Stair_longest_pause [st 24 1 [2, 20], .int 0] [P'] = .ok (.int (-1)) [P'] := e_lp_lo okb (by decide)
      have eq : dEqG false (.lst [.int 1, .int 2, .int 3, .int 4, .int 19, .int (-1)]) (.lst [.int 1, .int 2, .int 3, .int 4, .int 19, .int (-1)]) [P'] = .ok (.bl true) [P'] := eqG_self (n := false) (ps := [.int 1, .int 2, .int 3, .int 4, .int 19, .int (-1)]) rfl (by decide)
      have pf : List.filterMap (fun i => [D.int 2, D.tup [D.int 2, D.int 20], D.int 1, D.int 24][i]?) [3, 2, 1, 0] = [D.int 24, D.int 1, D.tup [D.int 2, D.int 20], D.int 2] := rfl
      simp only [ap_f2, ap_cons, ap_cons2, ap_and, ap_or, ap_not, ap_if, ap_andV, ap_andV2, ap_orV, ap_orV2, ap_notV, ap_notV2, ap_ch1, ap_ch2, ap_ch3, ap_ch4, ap_lst, ap_tup, ap_lstM, ap_sl, ap_sl2, ap_ret, ap_drop, ap_set, ap_nx, ap_asg, ap_par, ap_par3, ap_r1, ap_r2, ap_si1, ap_si2, ap_si3, ap_sf1, ap_sf2, ap_for, ap_lcE, x_var, vK_some, x_c, x_f1, x_f2, x_nil, x_cons, x_and, x_or, x_not, x_if, x_andV, x_orV, x_notV, x_chain, x_lst, x_tup, x_lstM, x_sl, x_seq, sqK_nx, sqK_rt, sqK_bk, sqK_ct, x_ret, x_retN, x_drop, x_next, x_brk, x_cnt, x_set, x_asg, x_par, x_par3, x_raise1, x_raise2, x_setI, x_setF, endK_rt, endK_nx, x_for, x_bind, bd_ok, bd_er, bd_bad, bnd_bd, ret_ap, bad_ap, ite_ap, List.map_cons, List.map_nil, List.length_cons, List.length_nil, List.cons_append, List.nil_append, List.replicate, List.getElem?_cons_zero, List.getElem?_cons_succ, List.set_cons_zero, List.set_cons_succ, if_true, if_false, Bool.true_eq_false, Bool.false_eq_true, Bool.not_true, Bool.not_false, ite_true, ite_false, ↓reduceIte, Nat.reduceSub, Nat.reduceAdd, big, Nat.reduceLeDiff, Nat.zero_le, decide_true, decide_false, eq_self, wp_bd, ap_kW, wp_ok, wp_er, lpQ_nx, lpQ_ct, lpQ_bk, lpQ_rt, kAlt_ok, kAlt_er, kAlt_bad, ap_co1, ap_co2, isC_ins, ap_mk1, ap_mk2, x_kw, ap_kw1, ap_kw2, wp_noEr, x_lc, ap_lc, x_app, ap_app1, Nat.reduceLT, Nat.reduceBEq, beq_self_eq_true, dBool, dAdd, dSub, dMul, dMod, dFdiv, dPow, dNeg, dLt, dLe, dGt, dGe, eqG_int, eqG_str, eqG_bl, xor_t, xor_f, dIsN, dNotN, dTru, dIx, dLen, dAbs, dInt, dStr, dMax2, dMin2, dMul8, dRep, dApp, x_kw, ap_kw1, ap_kw2, perm, pf, and_self, mk, cs, ms, v0, v1, v2, v3, v4, v5, eq]
  obtain ⟨a, S, e, rfl⟩ := w.ok
  exact ⟨S, e⟩
end
end Ol

namespace Ol
open PySem L2 LamX

section
variable {P : Program} {wo : World} {K : PySem.W.Frag} {mg : Str → Option Value} {base : Heap} {A : Ad} {D0 : Fd}
theorem ok_end (T : Txt P K mg A D0) (TB : Tbs base mg A) : FnG P wo K mg base CX0 8 A.law D0.law ["_law_script"] (spLawT K (Ts A)) := law_endGT (w := W8 K A) (ok_law T TB) rfl (fun _ h => law_plain h)
end
theorem all_mk {P : Program} {w : World} {K : PySem.W.Frag} {h : Heap} {mg : Str → Option Value} {fa : Addr} (X : K.In h) (G : h.Ns mainGlobals mg) (hfa : mg "law" = some (.ref fa))
    {CTurnError CBadInput CRefused CBadNumber CBadAsk CUnlike CStair fBadNumber_init fBadAsk_init fUnlike_init fpen fdraw fpick fparts fStair_init fmade fvalue fStair_need_like fStair_over fStair_le fStair_sub fStair_eq ftwo_right fis_integer fStair_call fStair_longest_pause fone_right fheard frefused_right flaw lcrefused_right lprefused_right : Addr} {od0 an0 od1 an1 od2 an2 od3 an3 od4 an4 od5 an5 od6 an6 od7 an7 od8 an8 od9 an9 od10 an10 od11 an11 od12 an12 od13 an13 od14 an14 od15 an15 od16 an16 od17 an17 od18 an18 od19 an19 od20 an20 od21 an21 od22 an22 : Option Addr} {sl0 sl1 sl2 sl3 sl4 sl5 sl6 sl7 sl8 sl9 sl10 sl11 sl12 sl13 sl14 sl15 sl16 sl17 sl18 sl19 sl20 sl21 sl22 : Array (Option Value)} {oc0 kV0 dc0 pm0 ct0 oc1 kV1 dc1 pm1 ct1 oc2 kV2 dc2 pm2 ct2 oc3 kV3 dc3 pm3 cd3 ct3 oc4 kV4 dc4 pm4 cd4 ct4 oc5 kV5 dc5 pm5 cd5 ct5 oc6 kV6 dc6 pm6 cd6 ct6 oc7 kV7 dc7 pm7 cd7 ct7 oc8 kV8 dc8 pm8 cd8 ct8 oc9 kV9 dc9 pm9 cd9 ct9 oc10 kV10 dc10 pm10 cd10 ct10 oc11 kV11 dc11 pm11 cd11 ct11 oc12 kV12 dc12 pm12 cd12 ct12 oc13 kV13 dc13 pm13 cd13 ct13 oc14 kV14 dc14 pm14 cd14 ct14 oc15 kV15 dc15 pm15 cd15 ct15 oc16 kV16 dc16 pm16 cd16 ct16 oc17 kV17 dc17 pm17 cd17 ct17 oc18 kV18 dc18 pm18 cd18 ct18 oc19 kV19 dc19 pm19 cd19 ct19 oc20 kV20 dc20 pm20 cd20 ct20 oc21 kV21 dc21 pm21 ct21 oc22 kV22 dc22 pm22 cd22 ct22 : Value} {ca0 cc0 ca1 cc1 ca2 cc2 : Addr}
    (aCTurnError : PySem.W.nsIn K mainGlobals "TurnError" = some (some (.ref CTurnError)))
    (aCBadInput : PySem.W.nsIn K mainGlobals "BadInput" = some (some (.ref CBadInput)))
    (aCRefused : PySem.W.nsIn K mainGlobals "Refused" = some (some (.ref CRefused)))
    (aCBadNumber : PySem.W.nsIn K mainGlobals "BadNumber" = some (some (.ref CBadNumber)))
    (aCBadAsk : PySem.W.nsIn K mainGlobals "BadAsk" = some (some (.ref CBadAsk)))
    (aCUnlike : PySem.W.nsIn K mainGlobals "Unlike" = some (some (.ref CUnlike)))
    (aCStair : PySem.W.nsIn K mainGlobals "Stair" = some (some (.ref CStair)))
    (afBadNumber_init : PySem.W.findIn K (.ref CBadNumber) "__init__" = some (some (.ref fBadNumber_init)))
    (ifBadNumber_init : PySem.W.isFn K (.ref fBadNumber_init) = true)
    (lfBadNumber_init : K.lookup fBadNumber_init = some ⟨oc0, od0, .func (PySem.W.ksFn "__init__" "BadNumber.__init__" (defArgs s_BadNumber_init) (defBody s_BadNumber_init) (defScope s_BadNumber_init) .none kV0 dc0 pm0 an0 (.ref ca0) ct0 cc0), sl0⟩)
    (cfBadNumber_init : PySem.W.codeIn K (.ref ca0) "BadNumber.__init__" = true)
    (kfBadNumber_init : PySem.W.keepIn K (.ref fBadNumber_init) = true)
    {cl0 cy0 : Value} {cld0 cdd0 : Option Addr} {csl0 ccs0 : Array (Option Value)} {vs0 : Array Value} {fl0 : Str} {tf0 : Tok} {kd0 : ClassData}
    (efBadNumber_init : K.lookup cc0 = some ⟨cl0, cld0, .cell (some (.ref CBadNumber)), csl0⟩)
    (ofBadNumber_init : K.lookup ca0 = some ⟨cy0, cdd0, .fields vs0, ccs0⟩)
    (vfBadNumber_init : vs0[2]? = some (.str fl0 tf0))
    (pfBadNumber_init : ((P.main.file : Str) == fl0) = true)
    (tfBadNumber_init : (P.main.scope.names.lookup ("super" : Str)).isSome = false)
    (dfBadNumber_init : PySem.W.clsIn K CBadNumber = some kd0)
    (afBadAsk_init : PySem.W.findIn K (.ref CBadAsk) "__init__" = some (some (.ref fBadAsk_init)))
    (ifBadAsk_init : PySem.W.isFn K (.ref fBadAsk_init) = true)
    (lfBadAsk_init : K.lookup fBadAsk_init = some ⟨oc1, od1, .func (PySem.W.ksFn "__init__" "BadAsk.__init__" (defArgs s_BadAsk_init) (defBody s_BadAsk_init) (defScope s_BadAsk_init) .none kV1 dc1 pm1 an1 (.ref ca1) ct1 cc1), sl1⟩)
    (cfBadAsk_init : PySem.W.codeIn K (.ref ca1) "BadAsk.__init__" = true)
    (kfBadAsk_init : PySem.W.keepIn K (.ref fBadAsk_init) = true)
    {cl1 cy1 : Value} {cld1 cdd1 : Option Addr} {csl1 ccs1 : Array (Option Value)} {vs1 : Array Value} {fl1 : Str} {tf1 : Tok} {kd1 : ClassData}
    (efBadAsk_init : K.lookup cc1 = some ⟨cl1, cld1, .cell (some (.ref CBadAsk)), csl1⟩)
    (ofBadAsk_init : K.lookup ca1 = some ⟨cy1, cdd1, .fields vs1, ccs1⟩)
    (vfBadAsk_init : vs1[2]? = some (.str fl1 tf1))
    (pfBadAsk_init : ((P.main.file : Str) == fl1) = true)
    (tfBadAsk_init : (P.main.scope.names.lookup ("super" : Str)).isSome = false)
    (dfBadAsk_init : PySem.W.clsIn K CBadAsk = some kd1)
    (afUnlike_init : PySem.W.findIn K (.ref CUnlike) "__init__" = some (some (.ref fUnlike_init)))
    (ifUnlike_init : PySem.W.isFn K (.ref fUnlike_init) = true)
    (lfUnlike_init : K.lookup fUnlike_init = some ⟨oc2, od2, .func (PySem.W.ksFn "__init__" "Unlike.__init__" (defArgs s_Unlike_init) (defBody s_Unlike_init) (defScope s_Unlike_init) .none kV2 dc2 pm2 an2 (.ref ca2) ct2 cc2), sl2⟩)
    (cfUnlike_init : PySem.W.codeIn K (.ref ca2) "Unlike.__init__" = true)
    (kfUnlike_init : PySem.W.keepIn K (.ref fUnlike_init) = true)
    {cl2 cy2 : Value} {cld2 cdd2 : Option Addr} {csl2 ccs2 : Array (Option Value)} {vs2 : Array Value} {fl2 : Str} {tf2 : Tok} {kd2 : ClassData}
    (efUnlike_init : K.lookup cc2 = some ⟨cl2, cld2, .cell (some (.ref CUnlike)), csl2⟩)
    (ofUnlike_init : K.lookup ca2 = some ⟨cy2, cdd2, .fields vs2, ccs2⟩)
    (vfUnlike_init : vs2[2]? = some (.str fl2 tf2))
    (pfUnlike_init : ((P.main.file : Str) == fl2) = true)
    (tfUnlike_init : (P.main.scope.names.lookup ("super" : Str)).isSome = false)
    (dfUnlike_init : PySem.W.clsIn K CUnlike = some kd2)
    (afpen : PySem.W.nsIn K mainGlobals "_law_pen" = some (some (.ref fpen)))
    (lfpen : K.lookup fpen = some ⟨oc3, od3, .func (PySem.W.fnOf "_law_pen" "_law_pen" (defArgs s_pen) (defBody s_pen) (defScope s_pen) .none kV3 dc3 pm3 an3 cd3 ct3), sl3⟩)
    (cfpen : PySem.W.codeIn K cd3 "_law_pen" = true)
    (kfpen : PySem.W.keepIn K (.ref fpen) = true)
    (afdraw : PySem.W.nsIn K mainGlobals "_law_draw" = some (some (.ref fdraw)))
    (lfdraw : K.lookup fdraw = some ⟨oc4, od4, .func (PySem.W.fnOf "_law_draw" "_law_draw" (defArgs s_draw) (defBody s_draw) (defScope s_draw) .none kV4 dc4 pm4 an4 cd4 ct4), sl4⟩)
    (cfdraw : PySem.W.codeIn K cd4 "_law_draw" = true)
    (kfdraw : PySem.W.keepIn K (.ref fdraw) = true)
    (afpick : PySem.W.nsIn K mainGlobals "_law_pick" = some (some (.ref fpick)))
    (lfpick : K.lookup fpick = some ⟨oc5, od5, .func (PySem.W.fnOf "_law_pick" "_law_pick" (defArgs s_pick) (defBody s_pick) (defScope s_pick) .none kV5 dc5 pm5 an5 cd5 ct5), sl5⟩)
    (cfpick : PySem.W.codeIn K cd5 "_law_pick" = true)
    (kfpick : PySem.W.keepIn K (.ref fpick) = true)
    (afparts : PySem.W.nsIn K mainGlobals "_law_parts" = some (some (.ref fparts)))
    (lfparts : K.lookup fparts = some ⟨oc6, od6, .func (PySem.W.fnOf "_law_parts" "_law_parts" (defArgs s_parts) (defBody s_parts) (defScope s_parts) .none kV6 dc6 pm6 an6 cd6 ct6), sl6⟩)
    (cfparts : PySem.W.codeIn K cd6 "_law_parts" = true)
    (kfparts : PySem.W.keepIn K (.ref fparts) = true)
    (afStair_init : PySem.W.findIn K (.ref CStair) "__init__" = some (some (.ref fStair_init)))
    (ifStair_init : PySem.W.isFn K (.ref fStair_init) = true)
    (lfStair_init : K.lookup fStair_init = some ⟨oc7, od7, .func (PySem.W.fnOf "__init__" "Stair.__init__" (defArgs s_Stair_init) (defBody s_Stair_init) (defScope s_Stair_init) .none kV7 dc7 pm7 an7 cd7 ct7), sl7⟩)
    (cfStair_init : PySem.W.codeIn K cd7 "Stair.__init__" = true)
    (kfStair_init : PySem.W.keepIn K (.ref fStair_init) = true)
    (afmade : PySem.W.nsIn K mainGlobals "_law_made" = some (some (.ref fmade)))
    (lfmade : K.lookup fmade = some ⟨oc8, od8, .func (PySem.W.fnOf "_law_made" "_law_made" (defArgs s_made) (defBody s_made) (defScope s_made) .none kV8 dc8 pm8 an8 cd8 ct8), sl8⟩)
    (cfmade : PySem.W.codeIn K cd8 "_law_made" = true)
    (kfmade : PySem.W.keepIn K (.ref fmade) = true)
    (afvalue : PySem.W.nsIn K mainGlobals "_law_value" = some (some (.ref fvalue)))
    (lfvalue : K.lookup fvalue = some ⟨oc9, od9, .func (PySem.W.fnOf "_law_value" "_law_value" (defArgs s_value) (defBody s_value) (defScope s_value) .none kV9 dc9 pm9 an9 cd9 ct9), sl9⟩)
    (cfvalue : PySem.W.codeIn K cd9 "_law_value" = true)
    (kfvalue : PySem.W.keepIn K (.ref fvalue) = true)
    (afStair_need_like : PySem.W.findIn K (.ref CStair) "need_like" = some (some (.ref fStair_need_like)))
    (ifStair_need_like : PySem.W.isFn K (.ref fStair_need_like) = true)
    (lfStair_need_like : K.lookup fStair_need_like = some ⟨oc10, od10, .func (PySem.W.fnOf "need_like" "Stair.need_like" (defArgs s_Stair_need_like) (defBody s_Stair_need_like) (defScope s_Stair_need_like) .none kV10 dc10 pm10 an10 cd10 ct10), sl10⟩)
    (cfStair_need_like : PySem.W.codeIn K cd10 "Stair.need_like" = true)
    (kfStair_need_like : PySem.W.keepIn K (.ref fStair_need_like) = true)
    (afStair_over : PySem.W.findIn K (.ref CStair) "over" = some (some (.ref fStair_over)))
    (ifStair_over : PySem.W.isFn K (.ref fStair_over) = true)
    (lfStair_over : K.lookup fStair_over = some ⟨oc11, od11, .func (PySem.W.fnOf "over" "Stair.over" (defArgs s_Stair_over) (defBody s_Stair_over) (defScope s_Stair_over) .none kV11 dc11 pm11 an11 cd11 ct11), sl11⟩)
    (cfStair_over : PySem.W.codeIn K cd11 "Stair.over" = true)
    (kfStair_over : PySem.W.keepIn K (.ref fStair_over) = true)
    (afStair_le : PySem.W.findIn K (.ref CStair) "__le__" = some (some (.ref fStair_le)))
    (ifStair_le : PySem.W.isFn K (.ref fStair_le) = true)
    (lfStair_le : K.lookup fStair_le = some ⟨oc12, od12, .func (PySem.W.fnOf "__le__" "Stair.__le__" (defArgs s_Stair_le) (defBody s_Stair_le) (defScope s_Stair_le) .none kV12 dc12 pm12 an12 cd12 ct12), sl12⟩)
    (cfStair_le : PySem.W.codeIn K cd12 "Stair.__le__" = true)
    (kfStair_le : PySem.W.keepIn K (.ref fStair_le) = true)
    (afStair_sub : PySem.W.findIn K (.ref CStair) "__sub__" = some (some (.ref fStair_sub)))
    (ifStair_sub : PySem.W.isFn K (.ref fStair_sub) = true)
    (lfStair_sub : K.lookup fStair_sub = some ⟨oc13, od13, .func (PySem.W.fnOf "__sub__" "Stair.__sub__" (defArgs s_Stair_sub) (defBody s_Stair_sub) (defScope s_Stair_sub) .none kV13 dc13 pm13 an13 cd13 ct13), sl13⟩)
    (cfStair_sub : PySem.W.codeIn K cd13 "Stair.__sub__" = true)
    (kfStair_sub : PySem.W.keepIn K (.ref fStair_sub) = true)
    (afStair_eq : PySem.W.findIn K (.ref CStair) "__eq__" = some (some (.ref fStair_eq)))
    (ifStair_eq : PySem.W.isFn K (.ref fStair_eq) = true)
    (lfStair_eq : K.lookup fStair_eq = some ⟨oc14, od14, .func (PySem.W.fnOf "__eq__" "Stair.__eq__" (defArgs s_Stair_eq) (defBody s_Stair_eq) (defScope s_Stair_eq) .none kV14 dc14 pm14 an14 cd14 ct14), sl14⟩)
    (cfStair_eq : PySem.W.codeIn K cd14 "Stair.__eq__" = true)
    (kfStair_eq : PySem.W.keepIn K (.ref fStair_eq) = true)
    (aftwo_right : PySem.W.nsIn K mainGlobals "_law_two_right" = some (some (.ref ftwo_right)))
    (lftwo_right : K.lookup ftwo_right = some ⟨oc15, od15, .func (PySem.W.fnOf "_law_two_right" "_law_two_right" (defArgs s_two_right) (defBody s_two_right) (defScope s_two_right) .none kV15 dc15 pm15 an15 cd15 ct15), sl15⟩)
    (cftwo_right : PySem.W.codeIn K cd15 "_law_two_right" = true)
    (kftwo_right : PySem.W.keepIn K (.ref ftwo_right) = true)
    (afis_integer : PySem.W.nsIn K mainGlobals "is_integer" = some (some (.ref fis_integer)))
    (lfis_integer : K.lookup fis_integer = some ⟨oc16, od16, .func (PySem.W.fnOf "is_integer" "is_integer" (defArgs s_is_integer) (defBody s_is_integer) (defScope s_is_integer) .none kV16 dc16 pm16 an16 cd16 ct16), sl16⟩)
    (cfis_integer : PySem.W.codeIn K cd16 "is_integer" = true)
    (kfis_integer : PySem.W.keepIn K (.ref fis_integer) = true)
    (afStair_call : PySem.W.findIn K (.ref CStair) "__call__" = some (some (.ref fStair_call)))
    (ifStair_call : PySem.W.isFn K (.ref fStair_call) = true)
    (lfStair_call : K.lookup fStair_call = some ⟨oc17, od17, .func (PySem.W.fnOf "__call__" "Stair.__call__" (defArgs s_Stair_call) (defBody s_Stair_call) (defScope s_Stair_call) .none kV17 dc17 pm17 an17 cd17 ct17), sl17⟩)
    (cfStair_call : PySem.W.codeIn K cd17 "Stair.__call__" = true)
    (kfStair_call : PySem.W.keepIn K (.ref fStair_call) = true)
    (afStair_longest_pause : PySem.W.findIn K (.ref CStair) "longest_pause" = some (some (.ref fStair_longest_pause)))
    (ifStair_longest_pause : PySem.W.isFn K (.ref fStair_longest_pause) = true)
    (lfStair_longest_pause : K.lookup fStair_longest_pause = some ⟨oc18, od18, .func (PySem.W.fnOf "longest_pause" "Stair.longest_pause" (defArgs s_Stair_longest_pause) (defBody s_Stair_longest_pause) (defScope s_Stair_longest_pause) .none kV18 dc18 pm18 an18 cd18 ct18), sl18⟩)
    (cfStair_longest_pause : PySem.W.codeIn K cd18 "Stair.longest_pause" = true)
    (kfStair_longest_pause : PySem.W.keepIn K (.ref fStair_longest_pause) = true)
    (afone_right : PySem.W.nsIn K mainGlobals "_law_one_right" = some (some (.ref fone_right)))
    (lfone_right : K.lookup fone_right = some ⟨oc19, od19, .func (PySem.W.fnOf "_law_one_right" "_law_one_right" (defArgs s_one_right) (defBody s_one_right) (defScope s_one_right) .none kV19 dc19 pm19 an19 cd19 ct19), sl19⟩)
    (cfone_right : PySem.W.codeIn K cd19 "_law_one_right" = true)
    (kfone_right : PySem.W.keepIn K (.ref fone_right) = true)
    (afheard : PySem.W.nsIn K mainGlobals "_law_heard" = some (some (.ref fheard)))
    (lfheard : K.lookup fheard = some ⟨oc20, od20, .func (PySem.W.fnOf "_law_heard" "_law_heard" (defArgs s_heard) (defBody s_heard) (defScope s_heard) .none kV20 dc20 pm20 an20 cd20 ct20), sl20⟩)
    (cfheard : PySem.W.codeIn K cd20 "_law_heard" = true)
    (kfheard : PySem.W.keepIn K (.ref fheard) = true)
    (afrefused_right : PySem.W.nsIn K mainGlobals "_law_refused_right" = some (some (.ref frefused_right)))
    (lfrefused_right : K.lookup frefused_right = some ⟨oc21, od21, .func (PySem.W.fnOf "_law_refused_right" "_law_refused_right" (defArgs s_refused_right) (defBody s_refused_right) (defScope s_refused_right) .none kV21 dc21 pm21 an21 (.ref lcrefused_right) ct21), sl21⟩)
    (cfrefused_right : PySem.W.codeIn K (.ref lcrefused_right) "_law_refused_right" = true)
    (kfrefused_right : PySem.W.keepIn K (.ref frefused_right) = true)
    {lyrefused_right : Value} {ldrefused_right : Option Addr} {lsrefused_right : Array (Option Value)} {lvrefused_right : Array Value}
    (lofrefused_right : K.lookup lcrefused_right = some ⟨lyrefused_right, ldrefused_right, .fields lvrefused_right, lsrefused_right⟩)
    (lifrefused_right : lvrefused_right[11]? = some (.ref lprefused_right))
    (tbfrefused_right : PySem.W.CodeHd h lcrefused_right lprefused_right ∧ h.get? lprefused_right = some { cls := .none, data := .fields #[] })
    (nlfrefused_right : K.lookup lprefused_right = none)
    (aflaw : PySem.W.nsIn K mainGlobals "law" = some (some (.ref flaw)))
    (lflaw : K.lookup flaw = some ⟨oc22, od22, .func (PySem.W.fnOf "law" "law" (defArgs s_law) (defBody s_law) (defScope s_law) .none kV22 dc22 pm22 an22 cd22 ct22), sl22⟩)
    (cflaw : PySem.W.codeIn K cd22 "law" = true)
    (kflaw : PySem.W.keepIn K (.ref flaw) = true)
    {nmCBadNumber qnCBadNumber : Str} {NCBadNumber : Addr} {bsCBadNumber bmCBadNumber : List Value} {snCBadNumber : List Str} {sbCBadNumber : List Value} {abCBadNumber : Bool} {coCBadNumber : Option Bool} {ddCBadNumber : Option Addr} {k0CBadNumber k1CBadNumber k2CBadNumber k3CBadNumber k5CBadNumber : Option Value}
    (x1CBadNumber : K.lookup CBadNumber = some (excClassObj nmCBadNumber qnCBadNumber CBadNumber NCBadNumber bsCBadNumber bmCBadNumber true snCBadNumber sbCBadNumber abCBadNumber coCBadNumber ddCBadNumber k0CBadNumber k1CBadNumber k2CBadNumber k3CBadNumber k5CBadNumber "ValueError.__new__"))
    (x2CBadNumber : PySem.HandSPX.refsVE bmCBadNumber = true)
    (x3CBadNumber : PySem.W.findIn K (.ref CBadNumber) "__setattr__" = some (some (.builtin "object.__setattr__")))
    (x4CBadNumber : PySem.W.subIn K (.ref CBadNumber) (.type "BaseException") = some true)
    (x5CBadNumber : PySem.W.typeIn K (.ref CBadNumber) = some (.type "type"))
    (x6CBadNumber : PySem.W.keepIn K (.ref CBadNumber) = true)
    (x7CBadNumber : PySem.W.mroIn K CBadNumber (.ref CBadNumber) = some true)
    (x8CBadNumber : PySem.W.ks_superIn K CBadNumber CBadNumber "__init__" = some (some (.builtin "ValueError.__init__")))
    (x9CBadNumber : PySem.W.subIn K (.ref CBadNumber) (.type "ValueError") = some true)
    (y1CBadNumber : PySem.W.findIn K (.ref CBadNumber) "__getattribute__" = some (some (.builtin "BaseException.__getattribute__")))
    (y2CBadNumber : PySem.W.findIn K (.ref CBadNumber) "__getattr__" = some none)
    (y3CBadNumber : PySem.W.hasDictIn K CBadNumber = true)
    (y4CBadNumber : PySem.W.findIn K (.ref CBadNumber) "__class__" = some (some (.builtin "object.__class__")))
    (y5CBadNumber : PySem.W.specialIn K (.builtin "object.__class__") "__get__" = some (some (.builtin "getset_descriptor.__get__")))
    (y6CBadNumber : PySem.W.takesIn K (.builtin "object.__class__") = some true)
    (y7CBadNumber : PySem.W.mroIn K CBadNumber (.type "object") = some true)
    (y8CBadNumber : PySem.W.typeIn K (.ref fBadNumber_init) = some (.type "function"))
    {nmCBadAsk qnCBadAsk : Str} {NCBadAsk : Addr} {bsCBadAsk bmCBadAsk : List Value} {snCBadAsk : List Str} {sbCBadAsk : List Value} {abCBadAsk : Bool} {coCBadAsk : Option Bool} {ddCBadAsk : Option Addr} {k0CBadAsk k1CBadAsk k2CBadAsk k3CBadAsk k5CBadAsk : Option Value}
    (x1CBadAsk : K.lookup CBadAsk = some (excClassObj nmCBadAsk qnCBadAsk CBadAsk NCBadAsk bsCBadAsk bmCBadAsk true snCBadAsk sbCBadAsk abCBadAsk coCBadAsk ddCBadAsk k0CBadAsk k1CBadAsk k2CBadAsk k3CBadAsk k5CBadAsk "ValueError.__new__"))
    (x2CBadAsk : PySem.HandSPX.refsVE bmCBadAsk = true)
    (x3CBadAsk : PySem.W.findIn K (.ref CBadAsk) "__setattr__" = some (some (.builtin "object.__setattr__")))
    (x4CBadAsk : PySem.W.subIn K (.ref CBadAsk) (.type "BaseException") = some true)
    (x5CBadAsk : PySem.W.typeIn K (.ref CBadAsk) = some (.type "type"))
    (x6CBadAsk : PySem.W.keepIn K (.ref CBadAsk) = true)
    (x7CBadAsk : PySem.W.mroIn K CBadAsk (.ref CBadAsk) = some true)
    (x8CBadAsk : PySem.W.ks_superIn K CBadAsk CBadAsk "__init__" = some (some (.builtin "ValueError.__init__")))
    (x9CBadAsk : PySem.W.subIn K (.ref CBadAsk) (.type "ValueError") = some true)
    (y1CBadAsk : PySem.W.findIn K (.ref CBadAsk) "__getattribute__" = some (some (.builtin "BaseException.__getattribute__")))
    (y2CBadAsk : PySem.W.findIn K (.ref CBadAsk) "__getattr__" = some none)
    (y3CBadAsk : PySem.W.hasDictIn K CBadAsk = true)
    (y4CBadAsk : PySem.W.findIn K (.ref CBadAsk) "__class__" = some (some (.builtin "object.__class__")))
    (y5CBadAsk : PySem.W.specialIn K (.builtin "object.__class__") "__get__" = some (some (.builtin "getset_descriptor.__get__")))
    (y6CBadAsk : PySem.W.takesIn K (.builtin "object.__class__") = some true)
    (y7CBadAsk : PySem.W.mroIn K CBadAsk (.type "object") = some true)
    (y8CBadAsk : PySem.W.typeIn K (.ref fBadAsk_init) = some (.type "function"))
    {nmCUnlike qnCUnlike : Str} {NCUnlike : Addr} {bsCUnlike bmCUnlike : List Value} {snCUnlike : List Str} {sbCUnlike : List Value} {abCUnlike : Bool} {coCUnlike : Option Bool} {ddCUnlike : Option Addr} {k0CUnlike k1CUnlike k2CUnlike k3CUnlike k5CUnlike : Option Value}
    (x1CUnlike : K.lookup CUnlike = some (excClassObj nmCUnlike qnCUnlike CUnlike NCUnlike bsCUnlike bmCUnlike true snCUnlike sbCUnlike abCUnlike coCUnlike ddCUnlike k0CUnlike k1CUnlike k2CUnlike k3CUnlike k5CUnlike "ValueError.__new__"))
    (x2CUnlike : PySem.HandSPX.refsVE bmCUnlike = true)
    (x3CUnlike : PySem.W.findIn K (.ref CUnlike) "__setattr__" = some (some (.builtin "object.__setattr__")))
    (x4CUnlike : PySem.W.subIn K (.ref CUnlike) (.type "BaseException") = some true)
    (x5CUnlike : PySem.W.typeIn K (.ref CUnlike) = some (.type "type"))
    (x6CUnlike : PySem.W.keepIn K (.ref CUnlike) = true)
    (x7CUnlike : PySem.W.mroIn K CUnlike (.ref CUnlike) = some true)
    (x8CUnlike : PySem.W.ks_superIn K CUnlike CUnlike "__init__" = some (some (.builtin "ValueError.__init__")))
    (x9CUnlike : PySem.W.subIn K (.ref CUnlike) (.type "ValueError") = some true)
    (y1CUnlike : PySem.W.findIn K (.ref CUnlike) "__getattribute__" = some (some (.builtin "BaseException.__getattribute__")))
    (y2CUnlike : PySem.W.findIn K (.ref CUnlike) "__getattr__" = some none)
    (y3CUnlike : PySem.W.hasDictIn K CUnlike = true)
    (y4CUnlike : PySem.W.findIn K (.ref CUnlike) "__class__" = some (some (.builtin "object.__class__")))
    (y5CUnlike : PySem.W.specialIn K (.builtin "object.__class__") "__get__" = some (some (.builtin "getset_descriptor.__get__")))
    (y6CUnlike : PySem.W.takesIn K (.builtin "object.__class__") = some true)
    (y7CUnlike : PySem.W.mroIn K CUnlike (.type "object") = some true)
    (y8CUnlike : PySem.W.typeIn K (.ref fUnlike_init) = some (.type "function"))
    (pgCStair : PySem.W.plainGet K CStair Str.empty = true)
    (hdCStair : PySem.W.hasDictIn K CStair = true)
    (poCStair : PySem.W.plainOver K CStair = true)
    (saCStair : PySem.W.findIn K (.ref CStair) "__setattr__" = some (some (.builtin "object.__setattr__")))
    (mkCStair : PySem.W.makesIn K CStair = true)
    (kcCStair : PySem.W.keepIn K (.ref CStair) = true)
    (icCStair : PySem.W.findIn K (.ref CStair) "__class__" = some (some (.builtin "object.__class__")))
    (igCStair : PySem.W.specialIn K (.builtin "object.__class__") "__get__" = some (some (.builtin "getset_descriptor.__get__")))
    (itCStair : PySem.W.takesIn K (.builtin "object.__class__") = some true)
    (imCStair : PySem.W.mroIn K CStair (.type "object") = some true)
    (sfCStair : PySem.W.selfFirst K CStair = true)
    (nfBadAskpart : PySem.W.findIn K (.ref CBadAsk) "part" = some none)
    (nfBadNumbervalue : PySem.W.findIn K (.ref CBadNumber) "value" = some none)
    (nfUnlikepart : PySem.W.findIn K (.ref CUnlike) "part" = some none)
    (msx : PySem.W.nsIn K mainGlobals "super" = some none)
    (opx : PySem.W.nsIn K cStatics "thirdparty.any" = some none)
    (naStairbase : PySem.W.findIn K (.ref CStair) "base" = some none)
    (naStairlength : PySem.W.findIn K (.ref CStair) "length" = some none)
    (naStairrises : PySem.W.findIn K (.ref CStair) "rises" = some none)
    (naStairstep : PySem.W.findIn K (.ref CStair) "step" = some none)
    (owStairSubNoneTypeo : PySem.W.findIn K (.ref CStair) (PySem.dunder "sub") = some (some (.ref fStair_sub)))
    (owStairSubNoneTyper : PySem.W.findIn K (.ref CStair) (PySem.dunderR "sub") = some none)
    {foowStairSubNoneType roowStairSubNoneType : Option Value}
    (owStairSubNoneType1 : PySem.W.findIn K (.type "NoneType") (PySem.dunder "sub") = some foowStairSubNoneType)
    (owStairSubNoneType2 : PySem.W.findIn K (.type "NoneType") (PySem.dunderR "sub") = some roowStairSubNoneType)
    (owStairSubNoneTypes : PySem.W.subIn K (.type "NoneType") (.ref CStair) = some false)
    (owStairSubboolo : PySem.W.findIn K (.ref CStair) (PySem.dunder "sub") = some (some (.ref fStair_sub)))
    (owStairSubboolr : PySem.W.findIn K (.ref CStair) (PySem.dunderR "sub") = some none)
    {foowStairSubbool roowStairSubbool : Option Value}
    (owStairSubbool1 : PySem.W.findIn K (.type "bool") (PySem.dunder "sub") = some foowStairSubbool)
    (owStairSubbool2 : PySem.W.findIn K (.type "bool") (PySem.dunderR "sub") = some roowStairSubbool)
    (owStairSubbools : PySem.W.subIn K (.type "bool") (.ref CStair) = some false)
    (owStairSubdicto : PySem.W.findIn K (.ref CStair) (PySem.dunder "sub") = some (some (.ref fStair_sub)))
    (owStairSubdictr : PySem.W.findIn K (.ref CStair) (PySem.dunderR "sub") = some none)
    {foowStairSubdict roowStairSubdict : Option Value}
    (owStairSubdict1 : PySem.W.findIn K (.type "dict") (PySem.dunder "sub") = some foowStairSubdict)
    (owStairSubdict2 : PySem.W.findIn K (.type "dict") (PySem.dunderR "sub") = some roowStairSubdict)
    (owStairSubdicts : PySem.W.subIn K (.type "dict") (.ref CStair) = some false)
    (owStairSubinto : PySem.W.findIn K (.ref CStair) (PySem.dunder "sub") = some (some (.ref fStair_sub)))
    (owStairSubintr : PySem.W.findIn K (.ref CStair) (PySem.dunderR "sub") = some none)
    {foowStairSubint roowStairSubint : Option Value}
    (owStairSubint1 : PySem.W.findIn K (.type "int") (PySem.dunder "sub") = some foowStairSubint)
    (owStairSubint2 : PySem.W.findIn K (.type "int") (PySem.dunderR "sub") = some roowStairSubint)
    (owStairSubints : PySem.W.subIn K (.type "int") (.ref CStair) = some false)
    (owStairSublisto : PySem.W.findIn K (.ref CStair) (PySem.dunder "sub") = some (some (.ref fStair_sub)))
    (owStairSublistr : PySem.W.findIn K (.ref CStair) (PySem.dunderR "sub") = some none)
    {foowStairSublist roowStairSublist : Option Value}
    (owStairSublist1 : PySem.W.findIn K (.type "list") (PySem.dunder "sub") = some foowStairSublist)
    (owStairSublist2 : PySem.W.findIn K (.type "list") (PySem.dunderR "sub") = some roowStairSublist)
    (owStairSublists : PySem.W.subIn K (.type "list") (.ref CStair) = some false)
    (owStairSubstro : PySem.W.findIn K (.ref CStair) (PySem.dunder "sub") = some (some (.ref fStair_sub)))
    (owStairSubstrr : PySem.W.findIn K (.ref CStair) (PySem.dunderR "sub") = some none)
    {foowStairSubstr roowStairSubstr : Option Value}
    (owStairSubstr1 : PySem.W.findIn K (.type "str") (PySem.dunder "sub") = some foowStairSubstr)
    (owStairSubstr2 : PySem.W.findIn K (.type "str") (PySem.dunderR "sub") = some roowStairSubstr)
    (owStairSubstrs : PySem.W.subIn K (.type "str") (.ref CStair) = some false)
    (owStairSubtupleo : PySem.W.findIn K (.ref CStair) (PySem.dunder "sub") = some (some (.ref fStair_sub)))
    (owStairSubtupler : PySem.W.findIn K (.ref CStair) (PySem.dunderR "sub") = some none)
    {foowStairSubtuple roowStairSubtuple : Option Value}
    (owStairSubtuple1 : PySem.W.findIn K (.type "tuple") (PySem.dunder "sub") = some foowStairSubtuple)
    (owStairSubtuple2 : PySem.W.findIn K (.type "tuple") (PySem.dunderR "sub") = some roowStairSubtuple)
    (owStairSubtuples : PySem.W.subIn K (.type "tuple") (.ref CStair) = some false)
    (neStair : PySem.W.findIn K (.ref CStair) "__ne__" = some (some (.builtin "object.__ne__")))
    (nabs : PySem.W.nsIn K mainGlobals "abs" = some none)
    (nbool : PySem.W.nsIn K mainGlobals "bool" = some none)
    (nenumerate : PySem.W.nsIn K mainGlobals "enumerate" = some none)
    (nint : PySem.W.nsIn K mainGlobals "int" = some none)
    (nisinstance : PySem.W.nsIn K mainGlobals "isinstance" = some none)
    (nlen : PySem.W.nsIn K mainGlobals "len" = some none)
    (nlist : PySem.W.nsIn K mainGlobals "list" = some none)
    (nmax : PySem.W.nsIn K mainGlobals "max" = some none)
    (nrange : PySem.W.nsIn K mainGlobals "range" = some none)
    (nrepr : PySem.W.nsIn K mainGlobals "repr" = some none)
    (nsorted : PySem.W.nsIn K mainGlobals "sorted" = some none)
    (ntuple : PySem.W.nsIn K mainGlobals "tuple" = some none)
    (xx_sf_Stair : PySem.W.selfFirst K CStair = true)
    (xx_od_Stair_Sub : PySem.W.findIn K (.ref CStair) (PySem.dunder "sub") = some (some (.ref fStair_sub)))
    (xx_if_Stair_sub : PySem.W.isFn K (.ref fStair_sub) = true)
    (xx_fn_Stair_call : PySem.W.fnIn K fStair_call = true)
    (xx_od_Stair_Eq : PySem.W.findIn K (.ref CStair) "__eq__" = some (some (.ref fStair_eq)))
    (xx_if_Stair_eq : PySem.W.isFn K (.ref fStair_eq) = true)
    (xx_sb_Stair_int : PySem.W.subIn K (.ref CStair) (.type "int") = some false)
    (xx_sb_Stair_str : PySem.W.subIn K (.ref CStair) (.type "str") = some false)
    (xx_sb_Stair_NoneType : PySem.W.subIn K (.ref CStair) (.type "NoneType") = some false)
    (xx_sb_Stair_tuple : PySem.W.subIn K (.ref CStair) (.type "tuple") = some false)
    (xkq_tNoneType_BadAsk : PySem.W.kitOne K (.type "NoneType") (.ref CBadAsk) = some false)
    (xkq_tbool_BadAsk : PySem.W.kitOne K (.type "bool") (.ref CBadAsk) = some false)
    (xkq_tint_BadAsk : PySem.W.kitOne K (.type "int") (.ref CBadAsk) = some false)
    (xkq_tstr_BadAsk : PySem.W.kitOne K (.type "str") (.ref CBadAsk) = some false)
    (xkq_tlist_BadAsk : PySem.W.kitOne K (.type "list") (.ref CBadAsk) = some false)
    (xkq_ttuple_BadAsk : PySem.W.kitOne K (.type "tuple") (.ref CBadAsk) = some false)
    (xkq_tdict_BadAsk : PySem.W.kitOne K (.type "dict") (.ref CBadAsk) = some false)
    (xkq_Stair_BadAsk : PySem.W.kitOne K (.ref CStair) (.ref CBadAsk) = some false)
    (xkq_BadNumber_BadAsk : PySem.W.kitOne K (.ref CBadNumber) (.ref CBadAsk) = some false)
    (xkq_BadAsk_BadAsk : PySem.W.kitOne K (.ref CBadAsk) (.ref CBadAsk) = some true)
    (xkq_Unlike_BadAsk : PySem.W.kitOne K (.ref CUnlike) (.ref CBadAsk) = some false)
    (xkq_tNoneType_BadInput : PySem.W.kitOne K (.type "NoneType") (.ref CBadInput) = some false)
    (xkq_tbool_BadInput : PySem.W.kitOne K (.type "bool") (.ref CBadInput) = some false)
    (xkq_tint_BadInput : PySem.W.kitOne K (.type "int") (.ref CBadInput) = some false)
    (xkq_tstr_BadInput : PySem.W.kitOne K (.type "str") (.ref CBadInput) = some false)
    (xkq_tlist_BadInput : PySem.W.kitOne K (.type "list") (.ref CBadInput) = some false)
    (xkq_ttuple_BadInput : PySem.W.kitOne K (.type "tuple") (.ref CBadInput) = some false)
    (xkq_tdict_BadInput : PySem.W.kitOne K (.type "dict") (.ref CBadInput) = some false)
    (xkq_Stair_BadInput : PySem.W.kitOne K (.ref CStair) (.ref CBadInput) = some false)
    (xkq_BadNumber_BadInput : PySem.W.kitOne K (.ref CBadNumber) (.ref CBadInput) = some true)
    (xkq_BadAsk_BadInput : PySem.W.kitOne K (.ref CBadAsk) (.ref CBadInput) = some true)
    (xkq_Unlike_BadInput : PySem.W.kitOne K (.ref CUnlike) (.ref CBadInput) = some false)
    (xkq_tNoneType_BadNumber : PySem.W.kitOne K (.type "NoneType") (.ref CBadNumber) = some false)
    (xkq_tbool_BadNumber : PySem.W.kitOne K (.type "bool") (.ref CBadNumber) = some false)
    (xkq_tint_BadNumber : PySem.W.kitOne K (.type "int") (.ref CBadNumber) = some false)
    (xkq_tstr_BadNumber : PySem.W.kitOne K (.type "str") (.ref CBadNumber) = some false)
    (xkq_tlist_BadNumber : PySem.W.kitOne K (.type "list") (.ref CBadNumber) = some false)
    (xkq_ttuple_BadNumber : PySem.W.kitOne K (.type "tuple") (.ref CBadNumber) = some false)
    (xkq_tdict_BadNumber : PySem.W.kitOne K (.type "dict") (.ref CBadNumber) = some false)
    (xkq_Stair_BadNumber : PySem.W.kitOne K (.ref CStair) (.ref CBadNumber) = some false)
    (xkq_BadNumber_BadNumber : PySem.W.kitOne K (.ref CBadNumber) (.ref CBadNumber) = some true)
    (xkq_BadAsk_BadNumber : PySem.W.kitOne K (.ref CBadAsk) (.ref CBadNumber) = some false)
    (xkq_Unlike_BadNumber : PySem.W.kitOne K (.ref CUnlike) (.ref CBadNumber) = some false)
    (xkq_tNoneType_Refused : PySem.W.kitOne K (.type "NoneType") (.ref CRefused) = some false)
    (xkq_tbool_Refused : PySem.W.kitOne K (.type "bool") (.ref CRefused) = some false)
    (xkq_tint_Refused : PySem.W.kitOne K (.type "int") (.ref CRefused) = some false)
    (xkq_tstr_Refused : PySem.W.kitOne K (.type "str") (.ref CRefused) = some false)
    (xkq_tlist_Refused : PySem.W.kitOne K (.type "list") (.ref CRefused) = some false)
    (xkq_ttuple_Refused : PySem.W.kitOne K (.type "tuple") (.ref CRefused) = some false)
    (xkq_tdict_Refused : PySem.W.kitOne K (.type "dict") (.ref CRefused) = some false)
    (xkq_Stair_Refused : PySem.W.kitOne K (.ref CStair) (.ref CRefused) = some false)
    (xkq_BadNumber_Refused : PySem.W.kitOne K (.ref CBadNumber) (.ref CRefused) = some false)
    (xkq_BadAsk_Refused : PySem.W.kitOne K (.ref CBadAsk) (.ref CRefused) = some false)
    (xkq_Unlike_Refused : PySem.W.kitOne K (.ref CUnlike) (.ref CRefused) = some true)
    (xkq_tNoneType_Stair : PySem.W.kitOne K (.type "NoneType") (.ref CStair) = some false)
    (xkq_tbool_Stair : PySem.W.kitOne K (.type "bool") (.ref CStair) = some false)
    (xkq_tint_Stair : PySem.W.kitOne K (.type "int") (.ref CStair) = some false)
    (xkq_tstr_Stair : PySem.W.kitOne K (.type "str") (.ref CStair) = some false)
    (xkq_tlist_Stair : PySem.W.kitOne K (.type "list") (.ref CStair) = some false)
    (xkq_ttuple_Stair : PySem.W.kitOne K (.type "tuple") (.ref CStair) = some false)
    (xkq_tdict_Stair : PySem.W.kitOne K (.type "dict") (.ref CStair) = some false)
    (xkq_Stair_Stair : PySem.W.kitOne K (.ref CStair) (.ref CStair) = some true)
    (xkq_BadNumber_Stair : PySem.W.kitOne K (.ref CBadNumber) (.ref CStair) = some false)
    (xkq_BadAsk_Stair : PySem.W.kitOne K (.ref CBadAsk) (.ref CStair) = some false)
    (xkq_Unlike_Stair : PySem.W.kitOne K (.ref CUnlike) (.ref CStair) = some false)
    (xkq_tNoneType_Unlike : PySem.W.kitOne K (.type "NoneType") (.ref CUnlike) = some false)
    (xkq_tbool_Unlike : PySem.W.kitOne K (.type "bool") (.ref CUnlike) = some false)
    (xkq_tint_Unlike : PySem.W.kitOne K (.type "int") (.ref CUnlike) = some false)
    (xkq_tstr_Unlike : PySem.W.kitOne K (.type "str") (.ref CUnlike) = some false)
    (xkq_tlist_Unlike : PySem.W.kitOne K (.type "list") (.ref CUnlike) = some false)
    (xkq_ttuple_Unlike : PySem.W.kitOne K (.type "tuple") (.ref CUnlike) = some false)
    (xkq_tdict_Unlike : PySem.W.kitOne K (.type "dict") (.ref CUnlike) = some false)
    (xkq_Stair_Unlike : PySem.W.kitOne K (.ref CStair) (.ref CUnlike) = some false)
    (xkq_BadNumber_Unlike : PySem.W.kitOne K (.ref CBadNumber) (.ref CUnlike) = some false)
    (xkq_BadAsk_Unlike : PySem.W.kitOne K (.ref CBadAsk) (.ref CUnlike) = some false)
    (xkq_Unlike_Unlike : PySem.W.kitOne K (.ref CUnlike) (.ref CUnlike) = some true)
    (xkq_Stair_tbool : PySem.W.kitOne K (.ref CStair) (.type "bool") = some false)
    (xkq_BadNumber_tbool : PySem.W.kitOne K (.ref CBadNumber) (.type "bool") = some false)
    (xkq_BadAsk_tbool : PySem.W.kitOne K (.ref CBadAsk) (.type "bool") = some false)
    (xkq_Unlike_tbool : PySem.W.kitOne K (.ref CUnlike) (.type "bool") = some false)
    (xkq_Stair_tint : PySem.W.kitOne K (.ref CStair) (.type "int") = some false)
    (xkq_BadNumber_tint : PySem.W.kitOne K (.ref CBadNumber) (.type "int") = some false)
    (xkq_BadAsk_tint : PySem.W.kitOne K (.ref CBadAsk) (.type "int") = some false)
    (xkq_Unlike_tint : PySem.W.kitOne K (.ref CUnlike) (.type "int") = some false)
    (xsb_Stair_tNoneType : PySem.W.subIn K (.type "NoneType") (.ref CStair) = some false)
    (xsb_Stair_tbool : PySem.W.subIn K (.type "bool") (.ref CStair) = some false)
    (xsb_Stair_tint : PySem.W.subIn K (.type "int") (.ref CStair) = some false)
    (xsb_Stair_tstr : PySem.W.subIn K (.type "str") (.ref CStair) = some false)
    (xsb_Stair_tlist : PySem.W.subIn K (.type "list") (.ref CStair) = some false)
    (xsb_Stair_ttuple : PySem.W.subIn K (.type "tuple") (.ref CStair) = some false)
    (xsb_Stair_tdict : PySem.W.subIn K (.type "dict") (.ref CStair) = some false)
    (xte_1 : PySem.W.subIn K (.ref CTurnError) (.type "BaseException") = some true)
    (xte_2 : PySem.W.hasDictIn K CTurnError = true)
    (xte_3 : PySem.W.typeIn K (.ref CTurnError) = some (.type "type"))
    (xte_BadNumber : PySem.W.subIn K (.ref CBadNumber) (.ref CTurnError) = some true)
    (xte_BadAsk : PySem.W.subIn K (.ref CBadAsk) (.ref CTurnError) = some true)
    (xte_Unlike : PySem.W.subIn K (.ref CUnlike) (.ref CTurnError) = some true)
    : ∃ (fd : FuncData) (cs : List (Addr × Addr)) (sp : Sp), (∀ p ∈ cs, h.get? p.2 = some { cls := .none, data := .fields #[] }) ∧ (∀ p ∈ cs, K.lookup p.2 = none) ∧ (∀ p ∈ cs, PySem.W.CodeHd h p.1 p.2) ∧ (∀ (s : Shared) (u : Value), BindsTo s fd ⟨[u], []⟩ [("_law_script", u)]) ∧
        (∀ (H : Hp) (a : Addr) (ns : List Int), ns.length ≤ 63 → (∀ p ∈ cs, H p.2 = some (.tbl #[])) → SqL K H a (ns.map V.int) → sp [.ref a] H (fun v _ => v = .bl true) fun _ _ _ => False) ∧
        ∀ base : Heap, K.In base → base.Ns mainGlobals mg → (∀ p ∈ cs, LamX.TabB base mg p.1 p.2) → FnG P w K mg base CX0 8 fa fd ["_law_script"] sp := by
  have e := hfa.symm.trans (PySem.W.mg_of X G aflaw)
  cases e
  have T : Txt P K mg ⟨CTurnError, CBadInput, CRefused, CBadNumber, CBadAsk, CUnlike, CStair, fBadNumber_init, fBadAsk_init, fUnlike_init, fpen, fdraw, fpick, fparts, fStair_init, fmade, fvalue, fStair_need_like, fStair_over, fStair_le, fStair_sub, fStair_eq, ftwo_right, fis_integer, fStair_call, fStair_longest_pause, fone_right, fheard, frefused_right, fa, lcrefused_right, lprefused_right⟩ ⟨PySem.W.ksFn "__init__" "BadNumber.__init__" (defArgs s_BadNumber_init) (defBody s_BadNumber_init) (defScope s_BadNumber_init) .none kV0 dc0 pm0 an0 (.ref ca0) ct0 cc0, PySem.W.ksFn "__init__" "BadAsk.__init__" (defArgs s_BadAsk_init) (defBody s_BadAsk_init) (defScope s_BadAsk_init) .none kV1 dc1 pm1 an1 (.ref ca1) ct1 cc1, PySem.W.ksFn "__init__" "Unlike.__init__" (defArgs s_Unlike_init) (defBody s_Unlike_init) (defScope s_Unlike_init) .none kV2 dc2 pm2 an2 (.ref ca2) ct2 cc2, PySem.W.fnOf "_law_pen" "_law_pen" (defArgs s_pen) (defBody s_pen) (defScope s_pen) .none kV3 dc3 pm3 an3 cd3 ct3, PySem.W.fnOf "_law_draw" "_law_draw" (defArgs s_draw) (defBody s_draw) (defScope s_draw) .none kV4 dc4 pm4 an4 cd4 ct4, PySem.W.fnOf "_law_pick" "_law_pick" (defArgs s_pick) (defBody s_pick) (defScope s_pick) .none kV5 dc5 pm5 an5 cd5 ct5, PySem.W.fnOf "_law_parts" "_law_parts" (defArgs s_parts) (defBody s_parts) (defScope s_parts) .none kV6 dc6 pm6 an6 cd6 ct6, PySem.W.fnOf "__init__" "Stair.__init__" (defArgs s_Stair_init) (defBody s_Stair_init) (defScope s_Stair_init) .none kV7 dc7 pm7 an7 cd7 ct7, PySem.W.fnOf "_law_made" "_law_made" (defArgs s_made) (defBody s_made) (defScope s_made) .none kV8 dc8 pm8 an8 cd8 ct8, PySem.W.fnOf "_law_value" "_law_value" (defArgs s_value) (defBody s_value) (defScope s_value) .none kV9 dc9 pm9 an9 cd9 ct9, PySem.W.fnOf "need_like" "Stair.need_like" (defArgs s_Stair_need_like) (defBody s_Stair_need_like) (defScope s_Stair_need_like) .none kV10 dc10 pm10 an10 cd10 ct10, PySem.W.fnOf "over" "Stair.over" (defArgs s_Stair_over) (defBody s_Stair_over) (defScope s_Stair_over) .none kV11 dc11 pm11 an11 cd11 ct11, PySem.W.fnOf "__le__" "Stair.__le__" (defArgs s_Stair_le) (defBody s_Stair_le) (defScope s_Stair_le) .none kV12 dc12 pm12 an12 cd12 ct12, PySem.W.fnOf "__sub__" "Stair.__sub__" (defArgs s_Stair_sub) (defBody s_Stair_sub) (defScope s_Stair_sub) .none kV13 dc13 pm13 an13 cd13 ct13, PySem.W.fnOf "__eq__" "Stair.__eq__" (defArgs s_Stair_eq) (defBody s_Stair_eq) (defScope s_Stair_eq) .none kV14 dc14 pm14 an14 cd14 ct14, PySem.W.fnOf "_law_two_right" "_law_two_right" (defArgs s_two_right) (defBody s_two_right) (defScope s_two_right) .none kV15 dc15 pm15 an15 cd15 ct15, PySem.W.fnOf "is_integer" "is_integer" (defArgs s_is_integer) (defBody s_is_integer) (defScope s_is_integer) .none kV16 dc16 pm16 an16 cd16 ct16, PySem.W.fnOf "__call__" "Stair.__call__" (defArgs s_Stair_call) (defBody s_Stair_call) (defScope s_Stair_call) .none kV17 dc17 pm17 an17 cd17 ct17, PySem.W.fnOf "longest_pause" "Stair.longest_pause" (defArgs s_Stair_longest_pause) (defBody s_Stair_longest_pause) (defScope s_Stair_longest_pause) .none kV18 dc18 pm18 an18 cd18 ct18, PySem.W.fnOf "_law_one_right" "_law_one_right" (defArgs s_one_right) (defBody s_one_right) (defScope s_one_right) .none kV19 dc19 pm19 an19 cd19 ct19, PySem.W.fnOf "_law_heard" "_law_heard" (defArgs s_heard) (defBody s_heard) (defScope s_heard) .none kV20 dc20 pm20 an20 cd20 ct20, PySem.W.fnOf "_law_refused_right" "_law_refused_right" (defArgs s_refused_right) (defBody s_refused_right) (defScope s_refused_right) .none kV21 dc21 pm21 an21 (.ref lcrefused_right) ct21, PySem.W.fnOf "law" "law" (defArgs s_law) (defBody s_law) (defScope s_law) .none kV22 dc22 pm22 an22 cd22 ct22⟩ := {
    f_BadNumber_init := ⟨⟨_, _, _, _, _, _, _, _, _, _, rfl, lfBadNumber_init, cfBadNumber_init, ⟨_, _, _, efBadNumber_init⟩, _, _, _, _, _, _, ofBadNumber_init, vfBadNumber_init, pfBadNumber_init⟩, tfBadNumber_init, ⟨_, dfBadNumber_init⟩, kfBadNumber_init⟩,
    b_BadNumber_init := FunS.binds (D := CBadNumber) (P := P) (st := s_BadNumber_init) ⟨⟨_, _, _, _, _, _, _, _, _, _, rfl, lfBadNumber_init, cfBadNumber_init, ⟨_, _, _, efBadNumber_init⟩, _, _, _, _, _, _, ofBadNumber_init, vfBadNumber_init, pfBadNumber_init⟩, tfBadNumber_init, ⟨_, dfBadNumber_init⟩, kfBadNumber_init⟩ (ps := ["self", "value"]) fun _ _ _ _ _ _ _ us hl => match us, hl with | [_, _], _ => rfl,
    f_BadAsk_init := ⟨⟨_, _, _, _, _, _, _, _, _, _, rfl, lfBadAsk_init, cfBadAsk_init, ⟨_, _, _, efBadAsk_init⟩, _, _, _, _, _, _, ofBadAsk_init, vfBadAsk_init, pfBadAsk_init⟩, tfBadAsk_init, ⟨_, dfBadAsk_init⟩, kfBadAsk_init⟩,
    b_BadAsk_init := FunS.binds (D := CBadAsk) (P := P) (st := s_BadAsk_init) ⟨⟨_, _, _, _, _, _, _, _, _, _, rfl, lfBadAsk_init, cfBadAsk_init, ⟨_, _, _, efBadAsk_init⟩, _, _, _, _, _, _, ofBadAsk_init, vfBadAsk_init, pfBadAsk_init⟩, tfBadAsk_init, ⟨_, dfBadAsk_init⟩, kfBadAsk_init⟩ (ps := ["self", "part"]) fun _ _ _ _ _ _ _ us hl => match us, hl with | [_, _], _ => rfl,
    f_Unlike_init := ⟨⟨_, _, _, _, _, _, _, _, _, _, rfl, lfUnlike_init, cfUnlike_init, ⟨_, _, _, efUnlike_init⟩, _, _, _, _, _, _, ofUnlike_init, vfUnlike_init, pfUnlike_init⟩, tfUnlike_init, ⟨_, dfUnlike_init⟩, kfUnlike_init⟩,
    b_Unlike_init := FunS.binds (D := CUnlike) (P := P) (st := s_Unlike_init) ⟨⟨_, _, _, _, _, _, _, _, _, _, rfl, lfUnlike_init, cfUnlike_init, ⟨_, _, _, efUnlike_init⟩, _, _, _, _, _, _, ofUnlike_init, vfUnlike_init, pfUnlike_init⟩, tfUnlike_init, ⟨_, dfUnlike_init⟩, kfUnlike_init⟩ (ps := ["self", "part"]) fun _ _ _ _ _ _ _ us hl => match us, hl with | [_, _], _ => rfl,
    m_pen := PySem.W.mg_of X G afpen,
    f_pen := fun_mk (st := s_pen) lfpen cfpen kfpen,
    b_pen := (fun_mk (st := s_pen) lfpen cfpen kfpen).binds (ps := ["_law_script"]) fun _ _ _ _ _ _ us hl => match us, hl with | [_], _ => rfl,
    m_draw := PySem.W.mg_of X G afdraw,
    f_draw := fun_mk (st := s_draw) lfdraw cfdraw kfdraw,
    b_draw := (fun_mk (st := s_draw) lfdraw cfdraw kfdraw).binds (ps := ["_law_pen_here", "_law_many"]) fun _ _ _ _ _ _ us hl => match us, hl with | [_, _], _ => rfl,
    m_pick := PySem.W.mg_of X G afpick,
    f_pick := fun_mk (st := s_pick) lfpick cfpick kfpick,
    b_pick := (fun_mk (st := s_pick) lfpick cfpick kfpick).binds (ps := ["_law_pen_here", "_law_some"]) fun _ _ _ _ _ _ us hl => match us, hl with | [_, _], _ => rfl,
    m_parts := PySem.W.mg_of X G afparts,
    f_parts := fun_mk (st := s_parts) lfparts cfparts kfparts,
    b_parts := (fun_mk (st := s_parts) lfparts cfparts kfparts).binds (ps := ["_law_pen_here", "_law_size"]) fun _ _ _ _ _ _ us hl => match us, hl with | [_, _], _ => rfl,
    f_Stair_init := fun_mk (st := s_Stair_init) lfStair_init cfStair_init kfStair_init,
    b_Stair_init := (fun_mk (st := s_Stair_init) lfStair_init cfStair_init kfStair_init).binds (ps := ["self", "length", "base", "rises", "step"]) fun _ _ _ _ _ _ us hl => match us, hl with | [_, _, _, _, _], _ => rfl,
    m_made := PySem.W.mg_of X G afmade,
    f_made := fun_mk (st := s_made) lfmade cfmade kfmade,
    b_made := (fun_mk (st := s_made) lfmade cfmade kfmade).binds (ps := ["_law_parts_here", "_law_size"]) fun _ _ _ _ _ _ us hl => match us, hl with | [_, _], _ => rfl,
    m_value := PySem.W.mg_of X G afvalue,
    f_value := fun_mk (st := s_value) lfvalue cfvalue kfvalue,
    b_value := (fun_mk (st := s_value) lfvalue cfvalue kfvalue).binds (ps := ["_law_parts_here", "_law_size", "_law_pause"]) fun _ _ _ _ _ _ us hl => match us, hl with | [_, _, _], _ => rfl,
    f_Stair_need_like := fun_mk (st := s_Stair_need_like) lfStair_need_like cfStair_need_like kfStair_need_like,
    b_Stair_need_like := (fun_mk (st := s_Stair_need_like) lfStair_need_like cfStair_need_like kfStair_need_like).binds (ps := ["self", "other"]) fun _ _ _ _ _ _ us hl => match us, hl with | [_, _], _ => rfl,
    f_Stair_over := fun_mk (st := s_Stair_over) lfStair_over cfStair_over kfStair_over,
    b_Stair_over := (fun_mk (st := s_Stair_over) lfStair_over cfStair_over kfStair_over).binds (ps := ["self", "other"]) fun _ _ _ _ _ _ us hl => match us, hl with | [_, _], _ => rfl,
    f_Stair_le := fun_mk (st := s_Stair_le) lfStair_le cfStair_le kfStair_le,
    b_Stair_le := (fun_mk (st := s_Stair_le) lfStair_le cfStair_le kfStair_le).binds (ps := ["self", "other"]) fun _ _ _ _ _ _ us hl => match us, hl with | [_, _], _ => rfl,
    f_Stair_sub := fun_mk (st := s_Stair_sub) lfStair_sub cfStair_sub kfStair_sub,
    b_Stair_sub := (fun_mk (st := s_Stair_sub) lfStair_sub cfStair_sub kfStair_sub).binds (ps := ["self", "other"]) fun _ _ _ _ _ _ us hl => match us, hl with | [_, _], _ => rfl,
    f_Stair_eq := fun_mk (st := s_Stair_eq) lfStair_eq cfStair_eq kfStair_eq,
    b_Stair_eq := (fun_mk (st := s_Stair_eq) lfStair_eq cfStair_eq kfStair_eq).binds (ps := ["self", "other"]) fun _ _ _ _ _ _ us hl => match us, hl with | [_, _], _ => rfl,
    m_two_right := PySem.W.mg_of X G aftwo_right,
    f_two_right := fun_mk (st := s_two_right) lftwo_right cftwo_right kftwo_right,
    b_two_right := (fun_mk (st := s_two_right) lftwo_right cftwo_right kftwo_right).binds (ps := ["_law_size", "_law_parts_here", "_law_more"]) fun _ _ _ _ _ _ us hl => match us, hl with | [_, _, _], _ => rfl,
    m_is_integer := PySem.W.mg_of X G afis_integer,
    f_is_integer := fun_mk (st := s_is_integer) lfis_integer cfis_integer kfis_integer,
    b_is_integer := (fun_mk (st := s_is_integer) lfis_integer cfis_integer kfis_integer).binds (ps := ["value"]) fun _ _ _ _ _ _ us hl => match us, hl with | [_], _ => rfl,
    f_Stair_call := fun_mk (st := s_Stair_call) lfStair_call cfStair_call kfStair_call,
    b_Stair_call := (fun_mk (st := s_Stair_call) lfStair_call cfStair_call kfStair_call).binds (ps := ["self", "m"]) fun _ _ _ _ _ _ us hl => match us, hl with | [_, _], _ => rfl,
    f_Stair_longest_pause := fun_mk (st := s_Stair_longest_pause) lfStair_longest_pause cfStair_longest_pause kfStair_longest_pause,
    b_Stair_longest_pause := (fun_mk (st := s_Stair_longest_pause) lfStair_longest_pause cfStair_longest_pause kfStair_longest_pause).binds (ps := ["self", "number"]) fun _ _ _ _ _ _ us hl => match us, hl with | [_, _], _ => rfl,
    m_one_right := PySem.W.mg_of X G afone_right,
    f_one_right := fun_mk (st := s_one_right) lfone_right cfone_right kfone_right,
    b_one_right := (fun_mk (st := s_one_right) lfone_right cfone_right kfone_right).binds (ps := ["_law_pen_here", "_law_size", "_law_parts_here"]) fun _ _ _ _ _ _ us hl => match us, hl with | [_, _, _], _ => rfl,
    m_heard := PySem.W.mg_of X G afheard,
    f_heard := fun_mk (st := s_heard) lfheard cfheard kfheard,
    b_heard := (fun_mk (st := s_heard) lfheard cfheard kfheard).binds (ps := ["_law_ask"]) fun _ _ _ _ _ _ us hl => match us, hl with | [_], _ => rfl,
    m_refused_right := PySem.W.mg_of X G afrefused_right,
    f_refused_right := ⟨⟨_, _, _, _, _, _, _, _, rfl, lfrefused_right, cfrefused_right⟩, kfrefused_right⟩,
    b_refused_right := (fun_mk (st := s_refused_right) lfrefused_right cfrefused_right kfrefused_right).binds (ps := ["_law_pen_here", "_law_size", "_law_parts_here"]) fun _ _ _ _ _ _ us hl => match us, hl with | [_, _, _], _ => rfl,
    m_law := PySem.W.mg_of X G aflaw,
    f_law := fun_mk (st := s_law) lflaw cflaw kflaw,
    b_law := (fun_mk (st := s_law) lflaw cflaw kflaw).binds (ps := ["_law_script"]) fun _ _ _ _ _ _ us hl => match us, hl with | [_], _ => rfl,
    m_TurnError := PySem.W.mg_of X G aCTurnError,
    m_BadInput := PySem.W.mg_of X G aCBadInput,
    m_Refused := PySem.W.mg_of X G aCRefused,
    m_BadNumber := PySem.W.mg_of X G aCBadNumber,
    m_BadAsk := PySem.W.mg_of X G aCBadAsk,
    m_Unlike := PySem.W.mg_of X G aCUnlike,
    m_Stair := PySem.W.mg_of X G aCStair,
    cl_Stair := ⟨pgCStair, hdCStair, poCStair, saCStair⟩,
    mk_Stair := ⟨mkCStair, afStair_init, ifStair_init, kcCStair⟩,
    na_Stair_base := naStairbase,
    na_Stair_length := naStairlength,
    na_Stair_rises := naStairrises,
    na_Stair_step := naStairstep,
    me_Stair_need_like := ⟨afStair_need_like, ifStair_need_like, kfStair_need_like⟩,
    me_Stair_over := ⟨afStair_over, ifStair_over, kfStair_over⟩,
    me_Stair_le := ⟨afStair_le, ifStair_le, kfStair_le⟩,
    me_Stair_sub := ⟨afStair_sub, ifStair_sub, kfStair_sub⟩,
    me_Stair_eq := ⟨afStair_eq, ifStair_eq, kfStair_eq⟩,
    me_Stair_call := ⟨afStair_call, ifStair_call, kfStair_call⟩,
    me_Stair_longest_pause := ⟨afStair_longest_pause, ifStair_longest_pause, kfStair_longest_pause⟩,
    ow_Stair_Sub_NoneType := ⟨sfCStair, owStairSubNoneTypeo, ifStair_sub, ⟨_, owStairSubNoneTyper, .inl rfl⟩, ⟨_, owStairSubNoneType1⟩, ⟨_, owStairSubNoneType2⟩, owStairSubNoneTypes⟩,
    ow_Stair_Sub_bool := ⟨sfCStair, owStairSubboolo, ifStair_sub, ⟨_, owStairSubboolr, .inl rfl⟩, ⟨_, owStairSubbool1⟩, ⟨_, owStairSubbool2⟩, owStairSubbools⟩,
    ow_Stair_Sub_dict := ⟨sfCStair, owStairSubdicto, ifStair_sub, ⟨_, owStairSubdictr, .inl rfl⟩, ⟨_, owStairSubdict1⟩, ⟨_, owStairSubdict2⟩, owStairSubdicts⟩,
    ow_Stair_Sub_int := ⟨sfCStair, owStairSubinto, ifStair_sub, ⟨_, owStairSubintr, .inl rfl⟩, ⟨_, owStairSubint1⟩, ⟨_, owStairSubint2⟩, owStairSubints⟩,
    ow_Stair_Sub_list := ⟨sfCStair, owStairSublisto, ifStair_sub, ⟨_, owStairSublistr, .inl rfl⟩, ⟨_, owStairSublist1⟩, ⟨_, owStairSublist2⟩, owStairSublists⟩,
    ow_Stair_Sub_str := ⟨sfCStair, owStairSubstro, ifStair_sub, ⟨_, owStairSubstrr, .inl rfl⟩, ⟨_, owStairSubstr1⟩, ⟨_, owStairSubstr2⟩, owStairSubstrs⟩,
    ow_Stair_Sub_tuple := ⟨sfCStair, owStairSubtupleo, ifStair_sub, ⟨_, owStairSubtupler, .inl rfl⟩, ⟨_, owStairSubtuple1⟩, ⟨_, owStairSubtuple2⟩, owStairSubtuples⟩,
    co_Stair_Eq := ⟨afStair_eq, ifStair_eq⟩,
    co_Stair_LtE := ⟨afStair_le, ifStair_le⟩,
    ne_Stair := ⟨afStair_eq, ifStair_eq, neStair, imCStair⟩,
    is_Stair := ⟨⟨pgCStair, hdCStair, poCStair, saCStair⟩, icCStair, igCStair, itCStair, imCStair⟩,
    er_BadNumber := ⟨⟨⟨⟨_, _, _, _, _, _, _, _, _, _, _, _, _, _, _, x1CBadNumber, x2CBadNumber⟩, x3CBadNumber, x4CBadNumber, x5CBadNumber, x6CBadNumber⟩, x7CBadNumber, x8CBadNumber, x9CBadNumber⟩, ⟨y1CBadNumber, y2CBadNumber, x4CBadNumber, y3CBadNumber⟩, ⟨y1CBadNumber, y2CBadNumber, x4CBadNumber, y3CBadNumber, y4CBadNumber, y5CBadNumber, y6CBadNumber, y7CBadNumber⟩, afBadNumber_init, y8CBadNumber⟩,
    er_BadAsk := ⟨⟨⟨⟨_, _, _, _, _, _, _, _, _, _, _, _, _, _, _, x1CBadAsk, x2CBadAsk⟩, x3CBadAsk, x4CBadAsk, x5CBadAsk, x6CBadAsk⟩, x7CBadAsk, x8CBadAsk, x9CBadAsk⟩, ⟨y1CBadAsk, y2CBadAsk, x4CBadAsk, y3CBadAsk⟩, ⟨y1CBadAsk, y2CBadAsk, x4CBadAsk, y3CBadAsk, y4CBadAsk, y5CBadAsk, y6CBadAsk, y7CBadAsk⟩, afBadAsk_init, y8CBadAsk⟩,
    er_Unlike := ⟨⟨⟨⟨_, _, _, _, _, _, _, _, _, _, _, _, _, _, _, x1CUnlike, x2CUnlike⟩, x3CUnlike, x4CUnlike, x5CUnlike, x6CUnlike⟩, x7CUnlike, x8CUnlike, x9CUnlike⟩, ⟨y1CUnlike, y2CUnlike, x4CUnlike, y3CUnlike⟩, ⟨y1CUnlike, y2CUnlike, x4CUnlike, y3CUnlike, y4CUnlike, y5CUnlike, y6CUnlike, y7CUnlike⟩, afUnlike_init, y8CUnlike⟩,
    nf_BadAsk_part := nfBadAskpart,
    nf_BadNumber_value := nfBadNumbervalue,
    nf_Unlike_part := nfUnlikepart,
    ms := PySem.W.mg_none_of X G msx,
    op := opx,
    n_abs := PySem.W.mg_none_of X G nabs,
    n_bool := PySem.W.mg_none_of X G nbool,
    n_enumerate := PySem.W.mg_none_of X G nenumerate,
    n_int := PySem.W.mg_none_of X G nint,
    n_isinstance := PySem.W.mg_none_of X G nisinstance,
    n_len := PySem.W.mg_none_of X G nlen,
    n_list := PySem.W.mg_none_of X G nlist,
    n_max := PySem.W.mg_none_of X G nmax,
    n_range := PySem.W.mg_none_of X G nrange,
    n_repr := PySem.W.mg_none_of X G nrepr,
    n_sorted := PySem.W.mg_none_of X G nsorted,
    n_tuple := PySem.W.mg_none_of X G ntuple,
    x_sf_Stair := xx_sf_Stair,
    x_od_Stair_Sub := xx_od_Stair_Sub,
    x_if_Stair_sub := xx_if_Stair_sub,
    x_fn_Stair_call := xx_fn_Stair_call,
    x_od_Stair_Eq := xx_od_Stair_Eq,
    x_if_Stair_eq := xx_if_Stair_eq,
    x_sb_Stair_int := xx_sb_Stair_int,
    x_sb_Stair_str := xx_sb_Stair_str,
    x_sb_Stair_NoneType := xx_sb_Stair_NoneType,
    x_sb_Stair_tuple := xx_sb_Stair_tuple,
    kq_tNoneType_BadAsk := xkq_tNoneType_BadAsk,
    kq_tbool_BadAsk := xkq_tbool_BadAsk,
    kq_tint_BadAsk := xkq_tint_BadAsk,
    kq_tstr_BadAsk := xkq_tstr_BadAsk,
    kq_tlist_BadAsk := xkq_tlist_BadAsk,
    kq_ttuple_BadAsk := xkq_ttuple_BadAsk,
    kq_tdict_BadAsk := xkq_tdict_BadAsk,
    kq_Stair_BadAsk := xkq_Stair_BadAsk,
    kq_BadNumber_BadAsk := xkq_BadNumber_BadAsk,
    kq_BadAsk_BadAsk := xkq_BadAsk_BadAsk,
    kq_Unlike_BadAsk := xkq_Unlike_BadAsk,
    kq_tNoneType_BadInput := xkq_tNoneType_BadInput,
    kq_tbool_BadInput := xkq_tbool_BadInput,
    kq_tint_BadInput := xkq_tint_BadInput,
    kq_tstr_BadInput := xkq_tstr_BadInput,
    kq_tlist_BadInput := xkq_tlist_BadInput,
    kq_ttuple_BadInput := xkq_ttuple_BadInput,
    kq_tdict_BadInput := xkq_tdict_BadInput,
    kq_Stair_BadInput := xkq_Stair_BadInput,
    kq_BadNumber_BadInput := xkq_BadNumber_BadInput,
    kq_BadAsk_BadInput := xkq_BadAsk_BadInput,
    kq_Unlike_BadInput := xkq_Unlike_BadInput,
    kq_tNoneType_BadNumber := xkq_tNoneType_BadNumber,
    kq_tbool_BadNumber := xkq_tbool_BadNumber,
    kq_tint_BadNumber := xkq_tint_BadNumber,
    kq_tstr_BadNumber := xkq_tstr_BadNumber,
    kq_tlist_BadNumber := xkq_tlist_BadNumber,
    kq_ttuple_BadNumber := xkq_ttuple_BadNumber,
    kq_tdict_BadNumber := xkq_tdict_BadNumber,
    kq_Stair_BadNumber := xkq_Stair_BadNumber,
    kq_BadNumber_BadNumber := xkq_BadNumber_BadNumber,
    kq_BadAsk_BadNumber := xkq_BadAsk_BadNumber,
    kq_Unlike_BadNumber := xkq_Unlike_BadNumber,
    kq_tNoneType_Refused := xkq_tNoneType_Refused,
    kq_tbool_Refused := xkq_tbool_Refused,
    kq_tint_Refused := xkq_tint_Refused,
    kq_tstr_Refused := xkq_tstr_Refused,
    kq_tlist_Refused := xkq_tlist_Refused,
    kq_ttuple_Refused := xkq_ttuple_Refused,
    kq_tdict_Refused := xkq_tdict_Refused,
    kq_Stair_Refused := xkq_Stair_Refused,
    kq_BadNumber_Refused := xkq_BadNumber_Refused,
    kq_BadAsk_Refused := xkq_BadAsk_Refused,
    kq_Unlike_Refused := xkq_Unlike_Refused,
    kq_tNoneType_Stair := xkq_tNoneType_Stair,
    kq_tbool_Stair := xkq_tbool_Stair,
    kq_tint_Stair := xkq_tint_Stair,
    kq_tstr_Stair := xkq_tstr_Stair,
    kq_tlist_Stair := xkq_tlist_Stair,
    kq_ttuple_Stair := xkq_ttuple_Stair,
    kq_tdict_Stair := xkq_tdict_Stair,
    kq_Stair_Stair := xkq_Stair_Stair,
    kq_BadNumber_Stair := xkq_BadNumber_Stair,
    kq_BadAsk_Stair := xkq_BadAsk_Stair,
    kq_Unlike_Stair := xkq_Unlike_Stair,
    kq_tNoneType_Unlike := xkq_tNoneType_Unlike,
    kq_tbool_Unlike := xkq_tbool_Unlike,
    kq_tint_Unlike := xkq_tint_Unlike,
    kq_tstr_Unlike := xkq_tstr_Unlike,
    kq_tlist_Unlike := xkq_tlist_Unlike,
    kq_ttuple_Unlike := xkq_ttuple_Unlike,
    kq_tdict_Unlike := xkq_tdict_Unlike,
    kq_Stair_Unlike := xkq_Stair_Unlike,
    kq_BadNumber_Unlike := xkq_BadNumber_Unlike,
    kq_BadAsk_Unlike := xkq_BadAsk_Unlike,
    kq_Unlike_Unlike := xkq_Unlike_Unlike,
    kq_Stair_tbool := xkq_Stair_tbool,
    kq_BadNumber_tbool := xkq_BadNumber_tbool,
    kq_BadAsk_tbool := xkq_BadAsk_tbool,
    kq_Unlike_tbool := xkq_Unlike_tbool,
    kq_Stair_tint := xkq_Stair_tint,
    kq_BadNumber_tint := xkq_BadNumber_tint,
    kq_BadAsk_tint := xkq_BadAsk_tint,
    kq_Unlike_tint := xkq_Unlike_tint,
    sb_Stair_tNoneType := xsb_Stair_tNoneType,
    sb_Stair_tbool := xsb_Stair_tbool,
    sb_Stair_tint := xsb_Stair_tint,
    sb_Stair_tstr := xsb_Stair_tstr,
    sb_Stair_tlist := xsb_Stair_tlist,
    sb_Stair_ttuple := xsb_Stair_ttuple,
    sb_Stair_tdict := xsb_Stair_tdict,
    te_1 := xte_1,
    te_2 := xte_2,
    te_3 := xte_3,
    te_BadNumber := xte_BadNumber,
    te_BadAsk := xte_BadAsk,
    te_Unlike := xte_Unlike }
  refine ⟨PySem.W.fnOf "law" "law" (defArgs s_law) (defBody s_law) (defScope s_law) .none kV22 dc22 pm22 an22 cd22 ct22, [(lcrefused_right, lprefused_right)], spLawT K (Ts ⟨CTurnError, CBadInput, CRefused, CBadNumber, CBadAsk, CUnlike, CStair, fBadNumber_init, fBadAsk_init, fUnlike_init, fpen, fdraw, fpick, fparts, fStair_init, fmade, fvalue, fStair_need_like, fStair_over, fStair_le, fStair_sub, fStair_eq, ftwo_right, fis_integer, fStair_call, fStair_longest_pause, fone_right, fheard, frefused_right, fa, lcrefused_right, lprefused_right⟩), (by
    intro p hp
    simp only [List.mem_cons, List.not_mem_nil, or_false] at hp
    rcases hp with rfl
    · exact tbfrefused_right.2), (by
    intro p hp
    simp only [List.mem_cons, List.not_mem_nil, or_false] at hp
    rcases hp with rfl
    · exact nlfrefused_right), (by
    intro p hp
    simp only [List.mem_cons, List.not_mem_nil, or_false] at hp
    rcases hp with rfl
    · exact tbfrefused_right.1), fun s v => .of_eq rfl, fun H a ns hl hT hS => ⟨a, ns, rfl, hS, hl, (by
    intro p hp
    simp only [Ts, List.mem_cons, List.not_mem_nil, or_false] at hp
    rcases hp with rfl
    · exact hT (lcrefused_right, lprefused_right) (by simp)), fun _ => rfl⟩, fun base _ _ hTB => ok_end T ⟨hTB (lcrefused_right, lprefused_right) (by simp)⟩⟩
end Ol
open PySem PySem.W PyProof.Rows in
set_option maxRecDepth 100000 in
set_option maxHeartbeats 0 in
theorem PySem.Challenge.cw_onelongturn_k54_stairs_of_parts_holds : PySem.Challenge.rw_onelongturn_k54_stairs_of_parts.Holds := by
  w_on; o_law; k_head; (case hw => w_witness2)
  k_fill
  refine Ol.walk_ofTG (l := PySem.Challenge.rw_onelongturn_k54_stairs_of_parts) (n := 63) (k := 8) (x := "_law_script") rfl (by decide) rfl ⟨rfl, by decide, by decide⟩ (fun w h Y => PySem.W.km_in_of Y) ?F
  case F =>
    intro w mg fa h Y KX G hmg
    refine' Ol.all_mk KX G hmg ?aCTurnError ?aCBadInput ?aCRefused ?aCBadNumber ?aCBadAsk ?aCUnlike ?aCStair ?afBadNumber_init ?ifBadNumber_init ?lfBadNumber_init ?cfBadNumber_init ?kfBadNumber_init ?efBadNumber_init ?ofBadNumber_init ?vfBadNumber_init ?pfBadNumber_init ?tfBadNumber_init ?dfBadNumber_init ?afBadAsk_init ?ifBadAsk_init ?lfBadAsk_init ?cfBadAsk_init ?kfBadAsk_init ?efBadAsk_init ?ofBadAsk_init ?vfBadAsk_init ?pfBadAsk_init ?tfBadAsk_init ?dfBadAsk_init ?afUnlike_init ?ifUnlike_init ?lfUnlike_init ?cfUnlike_init ?kfUnlike_init ?efUnlike_init ?ofUnlike_init ?vfUnlike_init ?pfUnlike_init ?tfUnlike_init ?dfUnlike_init ?afpen ?lfpen ?cfpen ?kfpen ?afdraw ?lfdraw ?cfdraw ?kfdraw ?afpick ?lfpick ?cfpick ?kfpick ?afparts ?lfparts ?cfparts ?kfparts ?afStair_init ?ifStair_init ?lfStair_init ?cfStair_init ?kfStair_init ?afmade ?lfmade ?cfmade ?kfmade ?afvalue ?lfvalue ?cfvalue ?kfvalue ?afStair_need_like ?ifStair_need_like ?lfStair_need_like ?cfStair_need_like ?kfStair_need_like ?afStair_over ?ifStair_over ?lfStair_over ?cfStair_over ?kfStair_over ?afStair_le ?ifStair_le ?lfStair_le ?cfStair_le ?kfStair_le ?afStair_sub ?ifStair_sub ?lfStair_sub ?cfStair_sub ?kfStair_sub ?afStair_eq ?ifStair_eq ?lfStair_eq ?cfStair_eq ?kfStair_eq ?aftwo_right ?lftwo_right ?cftwo_right ?kftwo_right ?afis_integer ?lfis_integer ?cfis_integer ?kfis_integer ?afStair_call ?ifStair_call ?lfStair_call ?cfStair_call ?kfStair_call ?afStair_longest_pause ?ifStair_longest_pause ?lfStair_longest_pause ?cfStair_longest_pause ?kfStair_longest_pause ?afone_right ?lfone_right ?cfone_right ?kfone_right ?afheard ?lfheard ?cfheard ?kfheard ?afrefused_right ?lfrefused_right ?cfrefused_right ?kfrefused_right ?lofrefused_right ?lifrefused_right ?tbfrefused_right ?nlfrefused_right ?aflaw ?lflaw ?cflaw ?kflaw ?x1CBadNumber ?x2CBadNumber ?x3CBadNumber ?x4CBadNumber ?x5CBadNumber ?x6CBadNumber ?x7CBadNumber ?x8CBadNumber ?x9CBadNumber ?y1CBadNumber ?y2CBadNumber ?y3CBadNumber ?y4CBadNumber ?y5CBadNumber ?y6CBadNumber ?y7CBadNumber ?y8CBadNumber ?x1CBadAsk ?x2CBadAsk ?x3CBadAsk ?x4CBadAsk ?x5CBadAsk ?x6CBadAsk ?x7CBadAsk ?x8CBadAsk ?x9CBadAsk ?y1CBadAsk ?y2CBadAsk ?y3CBadAsk ?y4CBadAsk ?y5CBadAsk ?y6CBadAsk ?y7CBadAsk ?y8CBadAsk ?x1CUnlike ?x2CUnlike ?x3CUnlike ?x4CUnlike ?x5CUnlike ?x6CUnlike ?x7CUnlike ?x8CUnlike ?x9CUnlike ?y1CUnlike ?y2CUnlike ?y3CUnlike ?y4CUnlike ?y5CUnlike ?y6CUnlike ?y7CUnlike ?y8CUnlike ?pgCStair ?hdCStair ?poCStair ?saCStair ?mkCStair ?kcCStair ?icCStair ?igCStair ?itCStair ?imCStair ?sfCStair ?nfBadAskpart ?nfBadNumbervalue ?nfUnlikepart ?msx ?opx ?naStairbase ?naStairlength ?naStairrises ?naStairstep ?owStairSubNoneTypeo ?owStairSubNoneTyper ?owStairSubNoneType1 ?owStairSubNoneType2 ?owStairSubNoneTypes ?owStairSubboolo ?owStairSubboolr ?owStairSubbool1 ?owStairSubbool2 ?owStairSubbools ?owStairSubdicto ?owStairSubdictr ?owStairSubdict1 ?owStairSubdict2 ?owStairSubdicts ?owStairSubinto ?owStairSubintr ?owStairSubint1 ?owStairSubint2 ?owStairSubints ?owStairSublisto ?owStairSublistr ?owStairSublist1 ?owStairSublist2 ?owStairSublists ?owStairSubstro ?owStairSubstrr ?owStairSubstr1 ?owStairSubstr2 ?owStairSubstrs ?owStairSubtupleo ?owStairSubtupler ?owStairSubtuple1 ?owStairSubtuple2 ?owStairSubtuples ?neStair ?nabs ?nbool ?nenumerate ?nint ?nisinstance ?nlen ?nlist ?nmax ?nrange ?nrepr ?nsorted ?ntuple ?xx_sf_Stair ?xx_od_Stair_Sub ?xx_if_Stair_sub ?xx_fn_Stair_call ?xx_od_Stair_Eq ?xx_if_Stair_eq ?xx_sb_Stair_int ?xx_sb_Stair_str ?xx_sb_Stair_NoneType ?xx_sb_Stair_tuple ?xkq_tNoneType_BadAsk ?xkq_tbool_BadAsk ?xkq_tint_BadAsk ?xkq_tstr_BadAsk ?xkq_tlist_BadAsk ?xkq_ttuple_BadAsk ?xkq_tdict_BadAsk ?xkq_Stair_BadAsk ?xkq_BadNumber_BadAsk ?xkq_BadAsk_BadAsk ?xkq_Unlike_BadAsk ?xkq_tNoneType_BadInput ?xkq_tbool_BadInput ?xkq_tint_BadInput ?xkq_tstr_BadInput ?xkq_tlist_BadInput ?xkq_ttuple_BadInput ?xkq_tdict_BadInput ?xkq_Stair_BadInput ?xkq_BadNumber_BadInput ?xkq_BadAsk_BadInput ?xkq_Unlike_BadInput ?xkq_tNoneType_BadNumber ?xkq_tbool_BadNumber ?xkq_tint_BadNumber ?xkq_tstr_BadNumber ?xkq_tlist_BadNumber ?xkq_ttuple_BadNumber ?xkq_tdict_BadNumber ?xkq_Stair_BadNumber ?xkq_BadNumber_BadNumber ?xkq_BadAsk_BadNumber ?xkq_Unlike_BadNumber ?xkq_tNoneType_Refused ?xkq_tbool_Refused ?xkq_tint_Refused ?xkq_tstr_Refused ?xkq_tlist_Refused ?xkq_ttuple_Refused ?xkq_tdict_Refused ?xkq_Stair_Refused ?xkq_BadNumber_Refused ?xkq_BadAsk_Refused ?xkq_Unlike_Refused ?xkq_tNoneType_Stair ?xkq_tbool_Stair ?xkq_tint_Stair ?xkq_tstr_Stair ?xkq_tlist_Stair ?xkq_ttuple_Stair ?xkq_tdict_Stair ?xkq_Stair_Stair ?xkq_BadNumber_Stair ?xkq_BadAsk_Stair ?xkq_Unlike_Stair ?xkq_tNoneType_Unlike ?xkq_tbool_Unlike ?xkq_tint_Unlike ?xkq_tstr_Unlike ?xkq_tlist_Unlike ?xkq_ttuple_Unlike ?xkq_tdict_Unlike ?xkq_Stair_Unlike ?xkq_BadNumber_Unlike ?xkq_BadAsk_Unlike ?xkq_Unlike_Unlike ?xkq_Stair_tbool ?xkq_BadNumber_tbool ?xkq_BadAsk_tbool ?xkq_Unlike_tbool ?xkq_Stair_tint ?xkq_BadNumber_tint ?xkq_BadAsk_tint ?xkq_Unlike_tint ?xsb_Stair_tNoneType ?xsb_Stair_tbool ?xsb_Stair_tint ?xsb_Stair_tstr ?xsb_Stair_tlist ?xsb_Stair_ttuple ?xsb_Stair_tdict ?xte_1 ?xte_2 ?xte_3 ?xte_BadNumber ?xte_BadAsk ?xte_Unlike
    (case aCTurnError => k_is)
    (case aCBadInput => k_is)
    (case aCRefused => k_is)
    (case aCBadNumber => k_is)
    (case aCBadAsk => k_is)
    (case aCUnlike => k_is)
    (case aCStair => k_is)
    (case afBadNumber_init => k_is)
    (case ifBadNumber_init => k_is)
    (case lfBadNumber_init => k_is)
    (case cfBadNumber_init => k_is)
    (case kfBadNumber_init => k_is)
    (case efBadNumber_init => k_is)
    (case ofBadNumber_init => k_is)
    (case vfBadNumber_init => exact rfl)
    (case pfBadNumber_init => first | exact rfl | decide +kernel)
    (case tfBadNumber_init => first | exact rfl | decide +kernel)
    (case dfBadNumber_init => first | k_is | exact rfl)
    (case afBadAsk_init => k_is)
    (case ifBadAsk_init => k_is)
    (case lfBadAsk_init => k_is)
    (case cfBadAsk_init => k_is)
    (case kfBadAsk_init => k_is)
    (case efBadAsk_init => k_is)
    (case ofBadAsk_init => k_is)
    (case vfBadAsk_init => exact rfl)
    (case pfBadAsk_init => first | exact rfl | decide +kernel)
    (case tfBadAsk_init => first | exact rfl | decide +kernel)
    (case dfBadAsk_init => first | k_is | exact rfl)
    (case afUnlike_init => k_is)
    (case ifUnlike_init => k_is)
    (case lfUnlike_init => k_is)
    (case cfUnlike_init => k_is)
    (case kfUnlike_init => k_is)
    (case efUnlike_init => k_is)
    (case ofUnlike_init => k_is)
    (case vfUnlike_init => exact rfl)
    (case pfUnlike_init => first | exact rfl | decide +kernel)
    (case tfUnlike_init => first | exact rfl | decide +kernel)
    (case dfUnlike_init => first | k_is | exact rfl)
    (case afpen => k_is)
    (case lfpen => k_is)
    (case cfpen => k_is)
    (case kfpen => k_is)
    (case afdraw => k_is)
    (case lfdraw => k_is)
    (case cfdraw => k_is)
    (case kfdraw => k_is)
    (case afpick => k_is)
    (case lfpick => k_is)
    (case cfpick => k_is)
    (case kfpick => k_is)
    (case afparts => k_is)
    (case lfparts => k_is)
    (case cfparts => k_is)
    (case kfparts => k_is)
    (case afStair_init => k_is)
    (case ifStair_init => k_is)
    (case lfStair_init => k_is)
    (case cfStair_init => k_is)
    (case kfStair_init => k_is)
    (case afmade => k_is)
    (case lfmade => k_is)
    (case cfmade => k_is)
    (case kfmade => k_is)
    (case afvalue => k_is)
    (case lfvalue => k_is)
    (case cfvalue => k_is)
    (case kfvalue => k_is)
    (case afStair_need_like => k_is)
    (case ifStair_need_like => k_is)
    (case lfStair_need_like => k_is)
    (case cfStair_need_like => k_is)
    (case kfStair_need_like => k_is)
    (case afStair_over => k_is)
    (case ifStair_over => k_is)
    (case lfStair_over => k_is)
    (case cfStair_over => k_is)
    (case kfStair_over => k_is)
    (case afStair_le => k_is)
    (case ifStair_le => k_is)
    (case lfStair_le => k_is)
    (case cfStair_le => k_is)
    (case kfStair_le => k_is)
    (case afStair_sub => k_is)
    (case ifStair_sub => k_is)
    (case lfStair_sub => k_is)
    (case cfStair_sub => k_is)
    (case kfStair_sub => k_is)
    (case afStair_eq => k_is)
    (case ifStair_eq => k_is)
    (case lfStair_eq => k_is)
    (case cfStair_eq => k_is)
    (case kfStair_eq => k_is)
    (case aftwo_right => k_is)
    (case lftwo_right => k_is)
    (case cftwo_right => k_is)
    (case kftwo_right => k_is)
    (case afis_integer => k_is)
    (case lfis_integer => k_is)
    (case cfis_integer => k_is)
    (case kfis_integer => k_is)
    (case afStair_call => k_is)
    (case ifStair_call => k_is)
    (case lfStair_call => k_is)
    (case cfStair_call => k_is)
    (case kfStair_call => k_is)
    (case afStair_longest_pause => k_is)
    (case ifStair_longest_pause => k_is)
    (case lfStair_longest_pause => k_is)
    (case cfStair_longest_pause => k_is)
    (case kfStair_longest_pause => k_is)
    (case afone_right => k_is)
    (case lfone_right => k_is)
    (case cfone_right => k_is)
    (case kfone_right => k_is)
    (case afheard => k_is)
    (case lfheard => k_is)
    (case cfheard => k_is)
    (case kfheard => k_is)
    (case afrefused_right => k_is)
    (case lfrefused_right => k_is)
    (case cfrefused_right => k_is)
    (case kfrefused_right => k_is)
    (case lofrefused_right => k_is)
    (case lifrefused_right => exact rfl)
    (case tbfrefused_right => exact ⟨PySem.W.codeHd_of_K KX (by kernel_rfl), PySem.W.km_tabs_of Y _ (by first | k_mem | decide | simp)⟩)
    (case nlfrefused_right => first | k_is | kernel_rfl | rfl)
    (case aflaw => k_is)
    (case lflaw => k_is)
    (case cflaw => k_is)
    (case kflaw => k_is)
    (case x1CBadNumber => k_is)
    (case x2CBadNumber => decide +kernel)
    (case x3CBadNumber => k_is)
    (case x4CBadNumber => k_is)
    (case x5CBadNumber => k_is)
    (case x6CBadNumber => k_is)
    (case x7CBadNumber => k_is)
    (case x8CBadNumber => ks_is)
    (case x9CBadNumber => k_is)
    (case y1CBadNumber => k_is)
    (case y2CBadNumber => k_is)
    (case y3CBadNumber => k_is)
    (case y4CBadNumber => k_is)
    (case y5CBadNumber => k_is)
    (case y6CBadNumber => k_is)
    (case y7CBadNumber => k_is)
    (case y8CBadNumber => k_is)
    (case x1CBadAsk => k_is)
    (case x2CBadAsk => decide +kernel)
    (case x3CBadAsk => k_is)
    (case x4CBadAsk => k_is)
    (case x5CBadAsk => k_is)
    (case x6CBadAsk => k_is)
    (case x7CBadAsk => k_is)
    (case x8CBadAsk => ks_is)
    (case x9CBadAsk => k_is)
    (case y1CBadAsk => k_is)
    (case y2CBadAsk => k_is)
    (case y3CBadAsk => k_is)
    (case y4CBadAsk => k_is)
    (case y5CBadAsk => k_is)
    (case y6CBadAsk => k_is)
    (case y7CBadAsk => k_is)
    (case y8CBadAsk => k_is)
    (case x1CUnlike => k_is)
    (case x2CUnlike => decide +kernel)
    (case x3CUnlike => k_is)
    (case x4CUnlike => k_is)
    (case x5CUnlike => k_is)
    (case x6CUnlike => k_is)
    (case x7CUnlike => k_is)
    (case x8CUnlike => ks_is)
    (case x9CUnlike => k_is)
    (case y1CUnlike => k_is)
    (case y2CUnlike => k_is)
    (case y3CUnlike => k_is)
    (case y4CUnlike => k_is)
    (case y5CUnlike => k_is)
    (case y6CUnlike => k_is)
    (case y7CUnlike => k_is)
    (case y8CUnlike => k_is)
    (case pgCStair => k_is)
    (case hdCStair => k_is)
    (case poCStair => k_is)
    (case saCStair => k_is)
    (case mkCStair => k_is)
    (case kcCStair => k_is)
    (case icCStair => k_is)
    (case igCStair => k_is)
    (case itCStair => k_is)
    (case imCStair => k_is)
    (case sfCStair => k_is)
    (case nfBadAskpart => k_is)
    (case nfBadNumbervalue => k_is)
    (case nfUnlikepart => k_is)
    (case msx => k_is)
    (case opx => k_is)
    (case naStairbase => k_is)
    (case naStairlength => k_is)
    (case naStairrises => k_is)
    (case naStairstep => k_is)
    (case owStairSubNoneTypeo => k_is)
    (case owStairSubNoneTyper => k_is)
    (case owStairSubNoneType1 => k_is)
    (case owStairSubNoneType2 => k_is)
    (case owStairSubNoneTypes => k_is)
    (case owStairSubboolo => k_is)
    (case owStairSubboolr => k_is)
    (case owStairSubbool1 => k_is)
    (case owStairSubbool2 => k_is)
    (case owStairSubbools => k_is)
    (case owStairSubdicto => k_is)
    (case owStairSubdictr => k_is)
    (case owStairSubdict1 => k_is)
    (case owStairSubdict2 => k_is)
    (case owStairSubdicts => k_is)
    (case owStairSubinto => k_is)
    (case owStairSubintr => k_is)
    (case owStairSubint1 => k_is)
    (case owStairSubint2 => k_is)
    (case owStairSubints => k_is)
    (case owStairSublisto => k_is)
    (case owStairSublistr => k_is)
    (case owStairSublist1 => k_is)
    (case owStairSublist2 => k_is)
    (case owStairSublists => k_is)
    (case owStairSubstro => k_is)
    (case owStairSubstrr => k_is)
    (case owStairSubstr1 => k_is)
    (case owStairSubstr2 => k_is)
    (case owStairSubstrs => k_is)
    (case owStairSubtupleo => k_is)
    (case owStairSubtupler => k_is)
    (case owStairSubtuple1 => k_is)
    (case owStairSubtuple2 => k_is)
    (case owStairSubtuples => k_is)
    (case neStair => k_is)
    (case nabs => k_is)
    (case nbool => k_is)
    (case nenumerate => k_is)
    (case nint => k_is)
    (case nisinstance => k_is)
    (case nlen => k_is)
    (case nlist => k_is)
    (case nmax => k_is)
    (case nrange => k_is)
    (case nrepr => k_is)
    (case nsorted => k_is)
    (case ntuple => k_is)
    (case xx_sf_Stair => k_is)
    (case xx_od_Stair_Sub => k_is)
    (case xx_if_Stair_sub => k_is)
    (case xx_fn_Stair_call => k_is)
    (case xx_od_Stair_Eq => k_is)
    (case xx_if_Stair_eq => k_is)
    (case xx_sb_Stair_int => k_is)
    (case xx_sb_Stair_str => k_is)
    (case xx_sb_Stair_NoneType => k_is)
    (case xx_sb_Stair_tuple => k_is)
    (case xkq_tNoneType_BadAsk => kit_is)
    (case xkq_tbool_BadAsk => kit_is)
    (case xkq_tint_BadAsk => kit_is)
    (case xkq_tstr_BadAsk => kit_is)
    (case xkq_tlist_BadAsk => kit_is)
    (case xkq_ttuple_BadAsk => kit_is)
    (case xkq_tdict_BadAsk => kit_is)
    (case xkq_Stair_BadAsk => kit_is)
    (case xkq_BadNumber_BadAsk => kit_is)
    (case xkq_BadAsk_BadAsk => kit_is)
    (case xkq_Unlike_BadAsk => kit_is)
    (case xkq_tNoneType_BadInput => kit_is)
    (case xkq_tbool_BadInput => kit_is)
    (case xkq_tint_BadInput => kit_is)
    (case xkq_tstr_BadInput => kit_is)
    (case xkq_tlist_BadInput => kit_is)
    (case xkq_ttuple_BadInput => kit_is)
    (case xkq_tdict_BadInput => kit_is)
    (case xkq_Stair_BadInput => kit_is)
    (case xkq_BadNumber_BadInput => kit_is)
    (case xkq_BadAsk_BadInput => kit_is)
    (case xkq_Unlike_BadInput => kit_is)
    (case xkq_tNoneType_BadNumber => kit_is)
    (case xkq_tbool_BadNumber => kit_is)
    (case xkq_tint_BadNumber => kit_is)
    (case xkq_tstr_BadNumber => kit_is)
    (case xkq_tlist_BadNumber => kit_is)
    (case xkq_ttuple_BadNumber => kit_is)
    (case xkq_tdict_BadNumber => kit_is)
    (case xkq_Stair_BadNumber => kit_is)
    (case xkq_BadNumber_BadNumber => kit_is)
    (case xkq_BadAsk_BadNumber => kit_is)
    (case xkq_Unlike_BadNumber => kit_is)
    (case xkq_tNoneType_Refused => kit_is)
    (case xkq_tbool_Refused => kit_is)
    (case xkq_tint_Refused => kit_is)
    (case xkq_tstr_Refused => kit_is)
    (case xkq_tlist_Refused => kit_is)
    (case xkq_ttuple_Refused => kit_is)
    (case xkq_tdict_Refused => kit_is)
    (case xkq_Stair_Refused => kit_is)
    (case xkq_BadNumber_Refused => kit_is)
    (case xkq_BadAsk_Refused => kit_is)
    (case xkq_Unlike_Refused => kit_is)
    (case xkq_tNoneType_Stair => kit_is)
    (case xkq_tbool_Stair => kit_is)
    (case xkq_tint_Stair => kit_is)
    (case xkq_tstr_Stair => kit_is)
    (case xkq_tlist_Stair => kit_is)
    (case xkq_ttuple_Stair => kit_is)
    (case xkq_tdict_Stair => kit_is)
    (case xkq_Stair_Stair => kit_is)
    (case xkq_BadNumber_Stair => kit_is)
    (case xkq_BadAsk_Stair => kit_is)
    (case xkq_Unlike_Stair => kit_is)
    (case xkq_tNoneType_Unlike => kit_is)
    (case xkq_tbool_Unlike => kit_is)
    (case xkq_tint_Unlike => kit_is)
    (case xkq_tstr_Unlike => kit_is)
    (case xkq_tlist_Unlike => kit_is)
    (case xkq_ttuple_Unlike => kit_is)
    (case xkq_tdict_Unlike => kit_is)
    (case xkq_Stair_Unlike => kit_is)
    (case xkq_BadNumber_Unlike => kit_is)
    (case xkq_BadAsk_Unlike => kit_is)
    (case xkq_Unlike_Unlike => kit_is)
    (case xkq_Stair_tbool => kit_is)
    (case xkq_BadNumber_tbool => kit_is)
    (case xkq_BadAsk_tbool => kit_is)
    (case xkq_Unlike_tbool => kit_is)
    (case xkq_Stair_tint => kit_is)
    (case xkq_BadNumber_tint => kit_is)
    (case xkq_BadAsk_tint => kit_is)
    (case xkq_Unlike_tint => kit_is)
    (case xsb_Stair_tNoneType => k_is)
    (case xsb_Stair_tbool => k_is)
    (case xsb_Stair_tint => k_is)
    (case xsb_Stair_tstr => k_is)
    (case xsb_Stair_tlist => k_is)
    (case xsb_Stair_ttuple => k_is)
    (case xsb_Stair_tdict => k_is)
    (case xte_1 => k_is)
    (case xte_2 => k_is)
    (case xte_3 => k_is)
    (case xte_BadNumber => k_is)
    (case xte_BadAsk => k_is)
    (case xte_Unlike => k_is)
#print axioms PySem.Challenge.cw_onelongturn_k54_stairs_of_parts_holds

import PyProof.Rows.All
import Wide.All
import OpenK.AllK
import Wide.FinOn
import HandS.ForMost
import HandS.IsInst
import HandS.Property
import HandS.Wide
import HandS.EndBits
import HandS.OwnEq
import HandS.Defaults
import HandS.More
import KE.KStateDown
import HandS.Head0
import HandS.Head1
import HandS.Head2
import HandS.HeadEnd
import HandS.HeadHook1
import HandS.HeadHook2
import HandS.Star
import HandS.ClsMeth
import HandS.Codes
import HandS.Exc
import HandS.TryOnly
import HandS.TryMany
import HandS.ExcOwn
import HandS.ExcSuper
import HandS.ExcField
import HandS.WordsExc
import HandS.ExcCtx
import HandS.HotCalls
import HandS.CallSlots
import HandS.ExcInit
import HandS.ExcIs
import HandS.ExcValue
import HandS.Walk
import PySem.Challenge.RW_planswitches_k43_classes_of_errors
set_option Elab.async false
set_option linter.all false
set_option maxRecDepth 100000
/-! places and scopes of the defs of planswitches_k43_classes_of_errors -/
namespace Ps
open PySem L2
def topS (i : Nat) : Stmt := PySem.Challenge.pw_planswitches_k43_classes_of_errors.main.body.getD i (.Pass ⟨0, 0, 0, 0⟩)
abbrev s_BadArgument_dd_init : Stmt := inClass (topS 2) 0
theorem sc_BadArgument_dd_init : FnScope ["self", "value"] ["self", "value"] (defScope s_BadArgument_dd_init) := ⟨rfl, rfl, rfl, by decide +kernel, rfl, by decide +kernel, by decide +kernel⟩
abbrev s_BadPrice_dd_init : Stmt := inClass (topS 3) 0
theorem sc_BadPrice_dd_init : FnScope ["self", "value"] ["self", "value"] (defScope s_BadPrice_dd_init) := ⟨rfl, rfl, rfl, by decide +kernel, rfl, by decide +kernel, by decide +kernel⟩
abbrev s_BadBook_dd_init : Stmt := inClass (topS 4) 0
theorem sc_BadBook_dd_init : FnScope ["self", "field"] ["self", "field"] (defScope s_BadBook_dd_init) := ⟨rfl, rfl, rfl, by decide +kernel, rfl, by decide +kernel, by decide +kernel⟩
abbrev s_BadState_dd_init : Stmt := inClass (topS 5) 0
theorem sc_BadState_dd_init : FnScope ["self", "value"] ["self", "value"] (defScope s_BadState_dd_init) := ⟨rfl, rfl, rfl, by decide +kernel, rfl, by decide +kernel, by decide +kernel⟩
abbrev s_BadRow_dd_init : Stmt := inClass (topS 6) 0
theorem sc_BadRow_dd_init : FnScope ["self", "value"] ["self", "value"] (defScope s_BadRow_dd_init) := ⟨rfl, rfl, rfl, by decide +kernel, rfl, by decide +kernel, by decide +kernel⟩
abbrev s_BadParts_dd_init : Stmt := inClass (topS 7) 0
theorem sc_BadParts_dd_init : FnScope ["self", "value"] ["self", "value"] (defScope s_BadParts_dd_init) := ⟨rfl, rfl, rfl, by decide +kernel, rfl, by decide +kernel, by decide +kernel⟩
abbrev s_BadRows_dd_init : Stmt := inClass (topS 8) 0
theorem sc_BadRows_dd_init : FnScope ["self", "field"] ["self", "field"] (defScope s_BadRows_dd_init) := ⟨rfl, rfl, rfl, by decide +kernel, rfl, by decide +kernel, by decide +kernel⟩
abbrev s_BadSort_dd_init : Stmt := inClass (topS 9) 0
theorem sc_BadSort_dd_init : FnScope ["self", "value"] ["self", "value"] (defScope s_BadSort_dd_init) := ⟨rfl, rfl, rfl, by decide +kernel, rfl, by decide +kernel, by decide +kernel⟩
abbrev s_BadNumber_dd_init : Stmt := inClass (topS 10) 0
theorem sc_BadNumber_dd_init : FnScope ["self", "value"] ["self", "value"] (defScope s_BadNumber_dd_init) := ⟨rfl, rfl, rfl, by decide +kernel, rfl, by decide +kernel, by decide +kernel⟩
abbrev s_BadPlan_dd_init : Stmt := inClass (topS 11) 0
theorem sc_BadPlan_dd_init : FnScope ["self", "value"] ["self", "value"] (defScope s_BadPlan_dd_init) := ⟨rfl, rfl, rfl, by decide +kernel, rfl, by decide +kernel, by decide +kernel⟩
abbrev s_BadWay_dd_init : Stmt := inClass (topS 12) 0
theorem sc_BadWay_dd_init : FnScope ["self", "value"] ["self", "value"] (defScope s_BadWay_dd_init) := ⟨rfl, rfl, rfl, by decide +kernel, rfl, by decide +kernel, by decide +kernel⟩
abbrev s_NoNode_dd_init : Stmt := inClass (topS 13) 0
theorem sc_NoNode_dd_init : FnScope ["self", "value"] ["self", "value"] (defScope s_NoNode_dd_init) := ⟨rfl, rfl, rfl, by decide +kernel, rfl, by decide +kernel, by decide +kernel⟩
abbrev s_TooLarge_dd_init : Stmt := inClass (topS 14) 0
theorem sc_TooLarge_dd_init : FnScope ["self", "number"] ["self", "number"] (defScope s_TooLarge_dd_init) := ⟨rfl, rfl, rfl, by decide +kernel, rfl, by decide +kernel, by decide +kernel⟩
abbrev s_BadMenu_dd_init : Stmt := inClass (topS 15) 0
theorem sc_BadMenu_dd_init : FnScope ["self", "value"] ["self", "value"] (defScope s_BadMenu_dd_init) := ⟨rfl, rfl, rfl, by decide +kernel, rfl, by decide +kernel, by decide +kernel⟩
abbrev s_BadChange_dd_init : Stmt := inClass (topS 16) 0
theorem sc_BadChange_dd_init : FnScope ["self", "value"] ["self", "value"] (defScope s_BadChange_dd_init) := ⟨rfl, rfl, rfl, by decide +kernel, rfl, by decide +kernel, by decide +kernel⟩
abbrev s_BadText_dd_init : Stmt := inClass (topS 17) 0
theorem sc_BadText_dd_init : FnScope ["self", "at"] ["self", "at"] (defScope s_BadText_dd_init) := ⟨rfl, rfl, rfl, by decide +kernel, rfl, by decide +kernel, by decide +kernel⟩
abbrev s_BadName_dd_init : Stmt := inClass (topS 18) 0
theorem sc_BadName_dd_init : FnScope ["self", "value"] ["self", "value"] (defScope s_BadName_dd_init) := ⟨rfl, rfl, rfl, by decide +kernel, rfl, by decide +kernel, by decide +kernel⟩
abbrev s_NameTaken_dd_init : Stmt := inClass (topS 19) 0
theorem sc_NameTaken_dd_init : FnScope ["self", "name"] ["self", "name"] (defScope s_NameTaken_dd_init) := ⟨rfl, rfl, rfl, by decide +kernel, rfl, by decide +kernel, by decide +kernel⟩
abbrev s_Dearer_dd_init : Stmt := inClass (topS 20) 0
theorem sc_Dearer_dd_init : FnScope ["self", "paper"] ["self", "paper"] (defScope s_Dearer_dd_init) := ⟨rfl, rfl, rfl, by decide +kernel, rfl, by decide +kernel, by decide +kernel⟩
abbrev s_FailedDeed_dd_init : Stmt := inClass (topS 21) 0
theorem sc_FailedDeed_dd_init : FnScope ["self", "at"] ["self", "at"] (defScope s_FailedDeed_dd_init) := ⟨rfl, rfl, rfl, by decide +kernel, rfl, by decide +kernel, by decide +kernel⟩
abbrev s_BadCommand_dd_init : Stmt := inClass (topS 22) 0
theorem sc_BadCommand_dd_init : FnScope ["self", "line"] ["self", "line"] (defScope s_BadCommand_dd_init) := ⟨rfl, rfl, rfl, by decide +kernel, rfl, by decide +kernel, by decide +kernel⟩
abbrev s_BadShare_dd_init : Stmt := inClass (topS 24) 0
theorem sc_BadShare_dd_init : FnScope ["self", "value"] ["self", "value"] (defScope s_BadShare_dd_init) := ⟨rfl, rfl, rfl, by decide +kernel, rfl, by decide +kernel, by decide +kernel⟩
abbrev s_DividedByNothing_dd_init : Stmt := inClass (topS 25) 0
theorem sc_DividedByNothing_dd_init : FnScope ["self", "value"] ["self", "value"] (defScope s_DividedByNothing_dd_init) := ⟨rfl, rfl, rfl, by decide +kernel, rfl, by decide +kernel, by decide +kernel⟩
abbrev s_BadKind_dd_init : Stmt := inClass (topS 26) 0
theorem sc_BadKind_dd_init : FnScope ["self", "word"] ["self", "word"] (defScope s_BadKind_dd_init) := ⟨rfl, rfl, rfl, by decide +kernel, rfl, by decide +kernel, by decide +kernel⟩
abbrev s_UnknownName_dd_init : Stmt := inClass (topS 27) 0
theorem sc_UnknownName_dd_init : FnScope ["self", "name"] ["self", "name"] (defScope s_UnknownName_dd_init) := ⟨rfl, rfl, rfl, by decide +kernel, rfl, by decide +kernel, by decide +kernel⟩
abbrev s_lw_numbers : Stmt := topS 29
theorem sc_lw_numbers : FnScope ["_law_cell", "_law_salt", "_law_sizes", "_law_whole", "_law_left", "_law_result", "_law_k", "_law_one"] ["_law_cell", "_law_salt", "_law_sizes"] (defScope s_lw_numbers) := ⟨rfl, rfl, rfl, by decide +kernel, rfl, by decide +kernel, by decide +kernel⟩
abbrev s_lw_pool : Stmt := topS 30
theorem sc_lw_pool : FnScope ["_law_cell", "_law_salt", "_law_many"] ["_law_cell", "_law_salt", "_law_many"] (defScope s_lw_pool) := ⟨rfl, rfl, rfl, by decide +kernel, rfl, by decide +kernel, by decide +kernel⟩
abbrev s_lw_draw : Stmt := topS 31
theorem sc_lw_draw : FnScope ["_law_pool_here", "_law_many", "_law_at"] ["_law_pool_here", "_law_many"] (defScope s_lw_draw) := ⟨rfl, rfl, rfl, by decide +kernel, rfl, by decide +kernel, by decide +kernel⟩
abbrev s_lw_opened : Stmt := topS 32
theorem sc_lw_opened : FnScope ["_law_script", "_law_k", "_law_many", "_law_cell"] ["_law_script", "_law_k", "_law_many"] (defScope s_lw_opened) := ⟨rfl, rfl, rfl, by decide +kernel, rfl, by decide +kernel, by decide +kernel⟩
abbrev s_lw_objects : Stmt := topS 33
theorem sc_lw_objects : FnScope ["_law_thing", "_law_found"] ["_law_thing"] (defScope s_lw_objects) := ⟨rfl, rfl, rfl, by decide +kernel, rfl, by decide +kernel, by decide +kernel⟩
abbrev s_lw_classes : Stmt := topS 34
theorem sc_lw_classes : FnScope ["_law_one", "_law_found"] ["_law_one"] (defScope s_lw_classes) := ⟨rfl, rfl, rfl, by decide +kernel, rfl, by decide +kernel, by decide +kernel⟩
abbrev s_lw_fields : Stmt := topS 35
theorem sc_lw_fields : FnScope ["_law_thing", "_law_found"] ["_law_thing"] (defScope s_lw_fields) := ⟨rfl, rfl, rfl, by decide +kernel, rfl, by decide +kernel, by decide +kernel⟩
abbrev s_lw_caught : Stmt := topS 36
theorem sc_lw_caught : FnScope ["_law_thing", "e"] ["_law_thing"] (defScope s_lw_caught) := ⟨rfl, rfl, rfl, by decide +kernel, rfl, by decide +kernel, by decide +kernel⟩
abbrev s_lw_law : Stmt := topS 37
theorem sc_lw_law : FnScope ["_law_script", "_law_k", "_law_pool_here", "_law_amount", "_law_thing", "_law_at", "_law_one", "_law_j"] ["_law_script"] (defScope s_lw_law) := ⟨rfl, rfl, rfl, by decide +kernel, rfl, by decide +kernel, by decide +kernel⟩
end Ps

set_option maxHeartbeats 4000000
/-! Own operators over the hand layer: the operand on the left is an own instance; or an int on the left and an own instance on the right. -/
namespace Ps
open PySem PySem.Spec PyProof.Rows PySem.W L2

section
variable {prog : Program} {w : World} {A : Around} {E : Value → Shared → Prop} {s : Shared} {K : Frag} {x C L f f' : Addr} {h₀ : Heap} {m : Str → Option Value} {ox : Obj} {od : Option Obj}

theorem asInt_inst {M : Model} {Q : Option Int → Shared → Prop} {dx : Addr} (hx : s.heap.get? x = some (instObj C dx)) (h : Q none s) : wpAny M A (asInt? (.ref x)) Q E s := by
  unfold asInt?
  exact wpAny_bind (wpAny_load hx (wpAny_pure h))

theorem dec_add {t : Tok} {i : Int} {dx : Addr} {Q : Value → Shared → Prop} (hx : s.heap.get? x = some (instObj C dx)) (h : Q .notImplemented s) :
    wpAny (model prog w) A (call (.builtin "int.__add__") [.int i t, .ref x]) Q E s := by
  refine GQ.call_here F.slot_int_add (typeIs_int s i t) F.entry_int_add (F.args_int_add_2 _ _) ?_
  obtain ⟨hp, g, d, tk, os⟩ := s
  wp_walk using asInt_inst hx
  exact h
theorem dec_sub {t : Tok} {i : Int} {dx : Addr} {Q : Value → Shared → Prop} (hx : s.heap.get? x = some (instObj C dx)) (h : Q .notImplemented s) :
    wpAny (model prog w) A (call (.builtin "int.__sub__") [.int i t, .ref x]) Q E s := by
  refine GQ.call_here F.slot_int_sub (typeIs_int s i t) F.entry_int_sub (F.args_int_sub_2 _ _) ?_
  obtain ⟨hp, g, d, tk, os⟩ := s
  wp_walk using asInt_inst hx
  exact h
theorem dec_mul {t : Tok} {i : Int} {dx : Addr} {Q : Value → Shared → Prop} (hx : s.heap.get? x = some (instObj C dx)) (h : Q .notImplemented s) :
    wpAny (model prog w) A (call (.builtin "int.__mul__") [.int i t, .ref x]) Q E s := by
  refine GQ.call_here F.slot_int_mul (typeIs_int s i t) F.entry_int_mul (F.args_int_mul_2 _ _) ?_
  obtain ⟨hp, g, d, tk, os⟩ := s
  wp_walk using asInt_inst hx
  exact h
theorem dec_lt {t : Tok} {i : Int} {dx : Addr} {Q : Value → Shared → Prop} (hx : s.heap.get? x = some (instObj C dx)) (h : Q .notImplemented s) :
    wpAny (model prog w) A (call (.builtin "int.__lt__") [.int i t, .ref x]) Q E s := by
  refine GQ.call_here F.slot_int_lt (typeIs_int s i t) F.entry_int_lt (F.args_int_lt_2 _ _) ?_
  obtain ⟨hp, g, d, tk, os⟩ := s
  wp_walk using asInt_inst hx
  exact h
theorem dec_le {t : Tok} {i : Int} {dx : Addr} {Q : Value → Shared → Prop} (hx : s.heap.get? x = some (instObj C dx)) (h : Q .notImplemented s) :
    wpAny (model prog w) A (call (.builtin "int.__le__") [.int i t, .ref x]) Q E s := by
  refine GQ.call_here F.slot_int_le (typeIs_int s i t) F.entry_int_le (F.args_int_le_2 _ _) ?_
  obtain ⟨hp, g, d, tk, os⟩ := s
  wp_walk using asInt_inst hx
  exact h
theorem dec_gt {t : Tok} {i : Int} {dx : Addr} {Q : Value → Shared → Prop} (hx : s.heap.get? x = some (instObj C dx)) (h : Q .notImplemented s) :
    wpAny (model prog w) A (call (.builtin "int.__gt__") [.int i t, .ref x]) Q E s := by
  refine GQ.call_here F.slot_int_gt (typeIs_int s i t) F.entry_int_gt (F.args_int_gt_2 _ _) ?_
  obtain ⟨hp, g, d, tk, os⟩ := s
  wp_walk using asInt_inst hx
  exact h
theorem dec_ge {t : Tok} {i : Int} {dx : Addr} {Q : Value → Shared → Prop} (hx : s.heap.get? x = some (instObj C dx)) (h : Q .notImplemented s) :
    wpAny (model prog w) A (call (.builtin "int.__ge__") [.int i t, .ref x]) Q E s := by
  refine GQ.call_here F.slot_int_ge (typeIs_int s i t) F.entry_int_ge (F.args_int_ge_2 _ _) ?_
  obtain ⟨hp, g, d, tk, os⟩ := s
  wp_walk using asInt_inst hx
  exact h
theorem dec_eq {t : Tok} {i : Int} {dx : Addr} {Q : Value → Shared → Prop} (hx : s.heap.get? x = some (instObj C dx)) (h : Q .notImplemented s) :
    wpAny (model prog w) A (call (.builtin "int.__eq__") [.int i t, .ref x]) Q E s := by
  refine GQ.call_here F.slot_int_eq (typeIs_int s i t) F.entry_int_eq (F.args_int_eq_2 _ _) ?_
  obtain ⟨hp, g, d, tk, os⟩ := s
  wp_walk using asInt_inst hx
  exact h
theorem dec_ne {t : Tok} {i : Int} {dx : Addr} {Q : Value → Shared → Prop} (hx : s.heap.get? x = some (instObj C dx)) (h : Q .notImplemented s) :
    wpAny (model prog w) A (call (.builtin "int.__ne__") [.int i t, .ref x]) Q E s := by
  refine GQ.call_here F.slot_int_ne (typeIs_int s i t) F.entry_int_ne (F.args_int_ne_2 _ _) ?_
  obtain ⟨hp, g, d, tk, os⟩ := s
  wp_walk using asInt_inst hx
  exact h

/-- an int on the left, an own instance on the right: the reflected method -/
theorem binop_R {op : Operator} {t : Tok} {i : Int} {id : String} {Q : Value → Shared → Prop} (X : K.In s.heap) (I : InstAt s.heap x ox C od) (hc : selfFirst K C = true)
    (hs : findIn K (.ref C) (PySem.dunder op.info.2) = some (some (.ref f'))) (hr : findIn K (.ref C) (dunderR op.info.2) = some (some (.ref f))) (hf : isFn K (.ref f) = true)
    (hsub : subIn K (.ref C) (.type "int") = some false) (hfl : fillsNumberSlot (.type "int") op.info.2 = pure true) (sl : Slot "int" (PySem.dunder op.info.2) id)
    (hd : ∀ Q : Value → Shared → Prop, Q .notImplemented s → wpAny (model prog w) A (call (.builtin id) [.int i t, .ref x]) Q E s)
    (h : wpAny (model prog w) A (call (.ref f) [.ref x, .int i t]) (PySem.W.CmpBack Q) E s) : wpAny (model prog w) A (binaryOp op (.int i t) (.ref x)) Q E s := by
  obtain ⟨cd, rest, hcd, hm⟩ := ksp_first hc
  rcases hi : op.info with ⟨sym, nm'⟩
  rw [hi] at hs hr hfl sl
  dsimp only at hs hr hfl sl
  have one := ksp_try X I hr hf h
  obtain ⟨hh, g, d, tt, os⟩ := s
  have L1 : Looks (model prog w) hh (typeOf (.ref x)) (.ref C) := I.type
  have L2 : Looks (model prog w) hh (typeOf (.int i t)) (.type "int") := Looks.of_pure rfl
  have L3 : Looks (model prog w) hh (fillsNumberSlot (.ref C) nm') true := fills_K X hcd hm hs
  have L4 : Looks (model prog w) hh (fillsNumberSlot (.type "int") nm') true := Looks.of_pure hfl
  have L5 : Looks (model prog w) hh (isSubtype (.ref C) (.type "int")) false := looks_subIn X hsub
  have L7 : Looks (model prog w) hh (numberSlotInPython (.type "int") nm') false := Looks.of_pure rfl
  have dec : wpAny (model prog w) A (tryMethod (.int i t) (PySem.dunder nm') (.ref x)) (fun r s' => r = none ∧ s' = ⟨hh, g, d, tt, os⟩) E ⟨hh, g, d, tt, os⟩ :=
    wpAny_tryMethod_declines (typeIs_int _ i t) sl (hd _ ⟨rfl, rfl, rfl⟩)
  have hne : (Value.type "int" == Value.ref C) = false := Bool.eq_false_iff.mpr fun q => by cases beq_iff_eq.mp q
  simp only [binaryOp, hi]
  refine wpAny_holding (wpAny_bind ?_)
  unfold binaryOp1
  refine wpAny_bind (L2.at (wpAny_bind (L1.at (wpAny_bind (L4.at ?_)))))
  simp only [hne, Bool.false_eq_true, if_false]
  ksp_lk
  refine wpAny_mono dec (fun r s' hr' => ?_) fun _ _ e => e
  obtain ⟨rfl, rfl⟩ := hr'
  ksp_lk
  refine wpAny_mono one (fun r s' hr' => ?_) fun _ _ e => e
  obtain ⟨v, rfl, hq⟩ := hr'
  ksp_lk
  exact hq
end

/-! ### over the layer -/
section
variable {X : Cx} {CX : CXT} {k : Nat} {f C f' : Addr} {fd : FuncData} {ps : List Str} {sp : Sp} {E : XK}

theorem cmpBack {pins : List (Addr × Obj)} {σ : L2.St} {Q : VK} {u : Value} {s : Shared} (h : EP X pins σ Q u s) : PySem.W.CmpBack (EP X pins σ Q) u s := by
  obtain ⟨v, H', I, r, q⟩ := id h
  cases v with
  | non => cases (show u = Value.none from r); exact h
  | bl b => cases (show u = Value.bool b from r); exact h
  | int i => obtain ⟨t, e⟩ := (show ∃ t, u = Value.int i t from r); cases e; exact h
  | str x => obtain ⟨t, e⟩ := (show ∃ t, u = Value.str x t from r); cases e; exact h
  | byt b => obtain ⟨t, e⟩ := (show ∃ t, u = Value.bytes b t from r); cases e; exact h
  | flt b => obtain ⟨t, e⟩ := (show ∃ t, u = Value.float b t from r); cases e; exact h
  | ref a => cases (show u = Value.ref a from r); exact h
  | ty n => cases (show u = Value.type n from r); exact h

/-- the class at C has the method nm at f -/
structure OwnOp (K : Frag) (C f : Addr) (nm : Str) : Prop where
  sf : selfFirst K C = true
  fn : findIn K (.ref C) nm = some (some (.ref f))
  isf : isFn K (.ref f) = true

/-- what is said of an own instance -/
def InsC (C : Addr) (H : Hp) (v : V) : Prop := ∃ a dx fs, v = .ref a ∧ H a = some (.ins C dx fs)
def rOwn (C : Addr) (sp : Sp) (E : XK) : R2 := fun x y H Q => InsC C H x ∧ InsC C H y ∧ sp [x, y] H Q E
def rOwnI (C : Addr) (sp : Sp) (E : XK) : R2 := fun x y H Q => InsC C H x ∧ (∃ i, y = .int i) ∧ sp [x, y] H Q E
def rRefI (C : Addr) (sp : Sp) (E : XK) : R2 := fun x y H Q => (∃ i, x = .int i) ∧ InsC C H y ∧ sp [y, x] H Q E

theorem op_own {op : Operator} (O : OwnOp X.K C f (PySem.dunder op.info.2)) (G : FnOk X.prog X.w X.K X.mg X.base CX k f fd ps sp) (hr : Room k X.A) (hb : Binds X.K fd ps []) (hx : Passes CX X E) : OpR X (binaryOp op) (rOwn C sp E) := by
  intro pins s σ H x y v u Q I rx ry h
  obtain ⟨⟨a, dx, fs, rfl, ha⟩, ⟨b, dy, gs, rfl, hb'⟩, h⟩ := h
  cases (show v = Value.ref a from rx)
  cases (show u = Value.ref b from ry)
  obtain ⟨mA, J, _⟩ := ins_get I.hok ha
  obtain ⟨mB, J', _⟩ := ins_get I.hok hb'
  obtain ⟨od, J, _⟩ := J.look
  obtain ⟨od', J', _⟩ := J'.look
  obtain ⟨m, hF⟩ := I.fr
  refine binop_K hF I.ok.mod.kin J J'.type O.sf O.fn O.isf ?_
  exact wpAny_mono (run_fn (us := [.ref a, .ref b]) (vs := [.ref a, .ref b]) (dvs := []) G hr hb .nil hx I (.cons rfl (.cons rfl .nil)) h) (fun _ _ z => cmpBack z) fun _ _ z => z

theorem op_ownI {op : Operator} {fo ro rc : Option Value} (O : OwnOp X.K C f (PySem.dunder op.info.2)) (hrc : findIn X.K (.ref C) (dunderR op.info.2) = some rc) (hp : rc = none ∨ ∃ g : Addr, rc = some (.ref g))
    (h1 : findIn X.K (.type "int") (PySem.dunder op.info.2) = some fo) (h2 : findIn X.K (.type "int") (dunderR op.info.2) = some ro) (hsub : subIn X.K (.type "int") (.ref C) = some false)
    (G : FnOk X.prog X.w X.K X.mg X.base CX k f fd ps sp) (hr : Room k X.A) (hb : Binds X.K fd ps []) (hx : Passes CX X E) : OpR X (binaryOp op) (rOwnI C sp E) := by
  intro pins s σ H x y v u Q I rx ry h
  obtain ⟨⟨a, dx, fs, rfl, ha⟩, ⟨i, rfl⟩, h⟩ := h
  cases (show v = Value.ref a from rx)
  obtain ⟨t, e⟩ := (show ∃ t, u = Value.int i t from ry)
  cases e
  obtain ⟨mA, J, _⟩ := ins_get I.hok ha
  obtain ⟨od, J, _⟩ := J.look
  obtain ⟨m, hF⟩ := I.fr
  refine ksp_binT hF I.ok.mod.kin J (T := "int") rfl O.sf O.fn O.isf hrc hp h1 h2 hsub ?_
  exact wpAny_mono (run_fn (us := [.ref a, .int i t]) (vs := [.ref a, .int i]) (dvs := []) G hr hb .nil hx I (.cons rfl (.cons ⟨t, rfl⟩ .nil)) h) (fun _ _ z => cmpBack z) fun _ _ z => z

theorem op_refI {op : Operator} {id : String} (O : OwnOp X.K C f (dunderR op.info.2)) (hs : findIn X.K (.ref C) (PySem.dunder op.info.2) = some (some (.ref f'))) (hsub : subIn X.K (.ref C) (.type "int") = some false)
    (hfl : fillsNumberSlot (.type "int") op.info.2 = pure true) (sl : Slot "int" (PySem.dunder op.info.2) id)
    (hd : ∀ {s : Shared} {x C dx : Addr} {t : Tok} {i : Int} {Q : Value → Shared → Prop}, s.heap.get? x = some (instObj C dx) → Q .notImplemented s → wpAny (model X.prog X.w) X.A (call (.builtin id) [.int i t, .ref x]) Q X.xe s)
    (G : FnOk X.prog X.w X.K X.mg X.base CX k f fd ps sp) (hr : Room k X.A) (hb : Binds X.K fd ps []) (hx : Passes CX X E) : OpR X (binaryOp op) (rRefI C sp E) := by
  intro pins s σ H x y v u Q I rx ry h
  obtain ⟨⟨i, rfl⟩, ⟨a, dx, fs, rfl, ha⟩, h⟩ := h
  cases (show u = Value.ref a from ry)
  obtain ⟨t, e⟩ := (show ∃ t, v = Value.int i t from rx)
  cases e
  obtain ⟨mA, J0, _⟩ := ins_get I.hok ha
  obtain ⟨_, _, _, hget, _⟩ := (show ObjOk X.prog X.w H s.heap a (.ins C dx fs) from I.hok a _ ha)
  obtain ⟨od, J, _⟩ := J0.look
  refine binop_R I.kIn J O.sf hs O.fn O.isf hsub hfl sl (fun Q q => hd hget q) ?_
  exact wpAny_mono (run_fn (us := [.ref a, .int i t]) (vs := [.ref a, .int i]) (dvs := []) G hr hb .nil hx I (.cons rfl (.cons ⟨t, rfl⟩ .nil)) h) (fun _ _ z => cmpBack z) fun _ _ z => z

/-- -x, abs(x) -/
def rUOwn (C : Addr) (sp : Sp) (E : XK) : V → Hp → VK → Prop := fun x H Q => InsC C H x ∧ sp [x] H Q E
theorem un_own (O : OwnOp X.K C f "__neg__") (G : FnOk X.prog X.w X.K X.mg X.base CX k f fd ps sp) (hr : Room k X.A) (hb : Binds X.K fd ps []) (hx : Passes CX X E) : UnR X (unaryOp .USub) (rUOwn C sp E) := by
  intro pins s σ H x v Q I rx h
  obtain ⟨⟨a, dx, fs, rfl, ha⟩, h⟩ := h
  cases (show v = Value.ref a from rx)
  obtain ⟨mA, J, _⟩ := ins_get I.hok ha
  obtain ⟨od, J, _⟩ := J.look
  obtain ⟨m, hF⟩ := I.fr
  exact ksp_neg hF I.ok.mod.kin J O.fn O.isf (run_fn (us := [.ref a]) (vs := [.ref a]) (dvs := []) G hr hb .nil hx I (.cons rfl .nil) h)

/-- the callee runs, called out of a builtin -/
theorem run_fn1 {pins : List (Addr × Obj)} {σ : L2.St} {H : Hp} {s : Shared} {Q : VK} {us : List Value} {vs : List V} (F : FnOk X.prog X.w X.K X.mg X.base CX k f fd ps sp) (hr : Room (k + 1) X.A) (hb : Binds X.K fd ps []) (hx : Passes CX X E)
    (I : L2.Inv X pins σ H s) (r : Vals vs us) (h : sp vs H Q E) : wpAny (model X.prog X.w) X.A.in1 (call (.ref f) us) (EP X pins σ Q) X.xe s := by
  have hl : (us ++ []).length = ps.length := by rw [List.append_nil, ← r.length]; exact F.len _ _ _ _ h
  have hb' := hb s us I.kIn hl
  rw [List.append_nil] at hb'
  refine wpAny_call (codeAny_mono (F.run X.A.in1 X.stack s H ⟨us, []⟩ us vs Q E hr.in1 I.env0.in1 hb' r h) fun r s' hq => ?_)
  cases r with
  | error e => exact hx pins σ H s e s' I hq
  | ok fl =>
    cases fl with
    | ret u => exact I.after hq
    | next => exact False.elim hq
    | brk => exact False.elim hq
    | cont => exact False.elim hq
theorem call_absO (O : OwnOp X.K C f "__abs__") (G : FnOk X.prog X.w X.K X.mg X.base CX k f fd ps sp) (hr : Room (k + 1) X.A) (hb : Binds X.K fd ps []) (hx : Passes CX X E) : CallR X (.builtin "abs") (fun xs H Q => ∃ x, xs = [x] ∧ InsC C H x ∧ sp [x] H Q E) := by
  intro pins s σ H xs us Q I r h
  obtain ⟨x, rfl, ⟨a, dx, fs, rfl, ha⟩, h⟩ := h
  obtain ⟨u, rfl, r1⟩ := vals1 r
  cases (show u = Value.ref a from r1)
  obtain ⟨mA, J, _⟩ := ins_get I.hok ha
  obtain ⟨od, J, _⟩ := J.look
  refine PySem.Calls.call_function_entry kind_abs plain_abs entry_abs (args_abs _) ?_
  unfold Builtin.«abs»
  refine wpAny_bind (m := oneArg "abs" _) (wpAny_pure ?_)
  refine wpAny_bind (special_fn I.kIn J O.fn (beq_iff_eq.mp O.isf) (wpAny_mono (run_fn1 (us := [.ref a]) (vs := [.ref a]) G hr hb hx I (.cons rfl .nil) h) (fun v s' z => ?_) fun _ _ z => z))
  exact wpAny_pure ⟨_, rfl, z⟩
end
end Ps

/-! Fractions in lowest terms, in plain Lean. -/
namespace Ps
def lowG (t u : Int) : Int := if u < 0 then -(Int.gcd t u : Int) else (Int.gcd t u : Int)
/-- what Share keeps of a top and an under -/
def low (t u : Int) : Int × Int := (t.fdiv (lowG t u), u.fdiv (lowG t u))
theorem gcd_pos {t u : Int} (hu : u ≠ 0) : 0 < Int.gcd t u := Int.gcd_pos_of_ne_zero_right t hu
theorem lowG_ne {t u : Int} (hu : u ≠ 0) : lowG t u ≠ 0 := by
  have h := gcd_pos (t := t) hu
  unfold lowG
  split <;> omega
theorem lowG_abs (t u : Int) : (lowG t u).natAbs = Int.gcd t u := by
  unfold lowG
  split <;> omega
theorem lowG_dvd_left (t u : Int) : lowG t u ∣ t := by
  have h : (Int.gcd t u : Int) ∣ t := Int.gcd_dvd_left ..
  unfold lowG
  split
  · exact Int.neg_dvd.mpr h
  · exact h
theorem lowG_dvd_right (t u : Int) : lowG t u ∣ u := by
  have h : (Int.gcd t u : Int) ∣ u := Int.gcd_dvd_right ..
  unfold lowG
  split
  · exact Int.neg_dvd.mpr h
  · exact h
theorem low_fst {t u : Int} (hu : u ≠ 0) : (low t u).1 * lowG t u = t := by
  obtain ⟨c, hc⟩ := lowG_dvd_left t u
  show t.fdiv (lowG t u) * lowG t u = t
  have : t.fdiv (lowG t u) = c := by
    rw [Int.fdiv_eq_of_eq_mul_right (lowG_ne hu) hc]
  rw [this, Int.mul_comm, ← hc]
theorem low_snd {t u : Int} (hu : u ≠ 0) : (low t u).2 * lowG t u = u := by
  obtain ⟨c, hc⟩ := lowG_dvd_right t u
  show u.fdiv (lowG t u) * lowG t u = u
  have : u.fdiv (lowG t u) = c := by
    rw [Int.fdiv_eq_of_eq_mul_right (lowG_ne hu) hc]
  rw [this, Int.mul_comm, ← hc]
theorem lowG_scale (k t u : Int) (hu : u ≠ 0) (hk : k ≠ 0) : lowG (k * t) (k * u) = k * lowG t u := by
  unfold lowG
  rw [Int.gcd_mul_left]
  have e : ((k.natAbs * Int.gcd t u : Nat) : Int) = (k.natAbs : Int) * (Int.gcd t u : Int) := by push_cast; rfl
  rw [e]
  rcases Int.lt_or_gt_of_ne hk with h | h
  · have ek : (k.natAbs : Int) = -k := by omega
    rw [ek]
    rcases Int.lt_or_gt_of_ne hu with h' | h'
    · have : 0 < k * u := Int.mul_pos_of_neg_of_neg h h'
      rw [if_neg (by omega), if_pos h', Int.neg_mul, Int.mul_neg]
    · have : k * u < 0 := Int.mul_neg_of_neg_of_pos h h'
      rw [if_pos this, if_neg (by omega), Int.neg_mul, Int.neg_neg]
  · have ek : (k.natAbs : Int) = k := by omega
    rw [ek]
    rcases Int.lt_or_gt_of_ne hu with h' | h'
    · have : k * u < 0 := Int.mul_neg_of_pos_of_neg h h'
      rw [if_pos this, if_pos h', Int.mul_neg]
    · have : 0 < k * u := Int.mul_pos h h'
      rw [if_neg (by omega), if_neg (by omega)]
/-- from an equation by products -/
theorem fdiv_of {a b c : Int} (hb : b ≠ 0) (h : a = c * b) : a.fdiv b = c := by
  rw [Int.fdiv_eq_of_eq_mul_right hb (by rw [h, Int.mul_comm])]
theorem low_scale (k t u : Int) (hu : u ≠ 0) (hk : k ≠ 0) : low (k * t) (k * u) = low t u := by
  have h1 := low_fst (t := t) hu
  have h2 := low_snd (t := t) hu
  have hg := lowG_ne (t := t) hu
  have hkg : k * lowG t u ≠ 0 := Int.mul_ne_zero hk hg
  unfold low
  rw [lowG_scale k t u hu hk]
  refine Prod.ext ?_ ?_
  · show (k * t).fdiv (k * lowG t u) = (low t u).1
    refine fdiv_of hkg ?_
    rw [show (low t u).1 * (k * lowG t u) = k * ((low t u).1 * lowG t u) by rw [Int.mul_left_comm], h1]
  · show (k * u).fdiv (k * lowG t u) = (low t u).2
    refine fdiv_of hkg ?_
    rw [show (low t u).2 * (k * lowG t u) = k * ((low t u).2 * lowG t u) by rw [Int.mul_left_comm], h2]
/-- the same fraction -/
theorem low_of {t u a b k : Int} (hb : b ≠ 0) (hk : k ≠ 0) (h1 : t = k * a) (h2 : u = k * b) : low t u = low a b := by
  rw [h1, h2, low_scale k a b hb hk]
theorem low_pos {t u : Int} (hu : u ≠ 0) : 0 < (low t u).2 := by
  have h2 := low_snd (t := t) hu
  have hg := gcd_pos (t := t) hu
  unfold lowG at h2
  rcases Int.lt_or_gt_of_ne hu with h | h
  · rw [if_pos h] at h2
    rcases Int.lt_trichotomy (low t u).2 0 with z | z | z
    · have := Int.mul_pos_of_neg_of_neg z (show -(Int.gcd t u : Int) < 0 by omega)
      omega
    · rw [z, Int.zero_mul] at h2; omega
    · exact z
  · rw [if_neg (by omega)] at h2
    rcases Int.lt_trichotomy (low t u).2 0 with z | z | z
    · have := Int.mul_neg_of_neg_of_pos z (show (0 : Int) < (Int.gcd t u : Int) by omega)
      omega
    · rw [z, Int.zero_mul] at h2; omega
    · exact z
theorem low_le1 {t u : Int} (hu : u ≠ 0) : (low t u).1.natAbs ≤ t.natAbs := by
  have h := congrArg Int.natAbs (low_fst (t := t) hu)
  rw [Int.natAbs_mul, lowG_abs] at h
  rw [← h]
  exact Nat.le_mul_of_pos_right _ (gcd_pos hu)
theorem low_le2 {t u : Int} (hu : u ≠ 0) : (low t u).2.natAbs ≤ u.natAbs := by
  have h := congrArg Int.natAbs (low_snd (t := t) hu)
  rw [Int.natAbs_mul, lowG_abs] at h
  rw [← h]
  exact Nat.le_mul_of_pos_right _ (gcd_pos hu)
theorem low_gcd {t u : Int} (hu : u ≠ 0) : Int.gcd (low t u).1 (low t u).2 = 1 := by
  have h1 := low_fst (t := t) hu
  have h2 := low_snd (t := t) hu
  have e : Int.gcd t u = Int.gcd (low t u).1 (low t u).2 * Int.gcd t u := by
    have := Int.gcd_mul_right (low t u).1 (lowG t u) (low t u).2
    rw [h1, h2, lowG_abs] at this
    exact this
  have hg := gcd_pos (t := t) hu
  have := Nat.eq_of_mul_eq_mul_right hg (show 1 * Int.gcd t u = Int.gcd (low t u).1 (low t u).2 * Int.gcd t u by rw [Nat.one_mul]; exact e)
  exact this.symm
theorem low_id {t u : Int} (hu : 0 < u) (hg : Int.gcd t u = 1) : low t u = (t, u) := by
  have e : lowG t u = 1 := by
    unfold lowG
    rw [if_neg (by omega), hg]; rfl
  unfold low
  rw [e, Int.fdiv_one, Int.fdiv_one]
theorem low_low {t u : Int} (hu : u ≠ 0) : low (low t u).1 (low t u).2 = low t u := by
  rw [low_id (low_pos hu) (low_gcd hu)]
theorem low_one (t : Int) : low t 1 = (t, 1) := low_id (by decide) (by simp)
/-! sums, products and quotients of fractions in lowest terms -/
theorem low_ex (t : Int) {u : Int} (hu : u ≠ 0) : ∃ a b g, low t u = (a, b) ∧ g ≠ 0 ∧ 0 < b ∧ t = a * g ∧ u = b * g :=
  ⟨(low t u).1, (low t u).2, lowG t u, rfl, lowG_ne hu, low_pos hu, (low_fst hu).symm, (low_snd hu).symm⟩
theorem low_add {t u c d : Int} (hu : u ≠ 0) (hd : d ≠ 0) : low ((low t u).1 * (low c d).2 + (low c d).1 * (low t u).2) ((low t u).2 * (low c d).2) = low (t * d + c * u) (u * d) := by
  obtain ⟨a, b, g, e1, hg, hb, rfl, rfl⟩ := low_ex t hu
  obtain ⟨p, q, h, e2, hh, hq, rfl, rfl⟩ := low_ex c hd
  rw [e1, e2]
  symm
  refine low_of (k := g * h) (Int.ne_of_gt (Int.mul_pos hb hq)) (Int.mul_ne_zero hg hh) ?_ ?_
  · show a * g * (q * h) + p * h * (b * g) = g * h * (a * q + p * b)
    grind
  · show b * g * (q * h) = g * h * (b * q)
    grind
theorem low_sub {t u c d : Int} (hu : u ≠ 0) (hd : d ≠ 0) : low ((low t u).1 * (low c d).2 + -(low c d).1 * (low t u).2) ((low t u).2 * (low c d).2) = low (t * d - c * u) (u * d) := by
  obtain ⟨a, b, g, e1, hg, hb, rfl, rfl⟩ := low_ex t hu
  obtain ⟨p, q, h, e2, hh, hq, rfl, rfl⟩ := low_ex c hd
  rw [e1, e2]
  symm
  refine low_of (k := g * h) (Int.ne_of_gt (Int.mul_pos hb hq)) (Int.mul_ne_zero hg hh) ?_ ?_
  · show a * g * (q * h) - p * h * (b * g) = g * h * (a * q + -p * b)
    grind
  · show b * g * (q * h) = g * h * (b * q)
    grind
theorem low_mul {t u c d : Int} (hu : u ≠ 0) (hd : d ≠ 0) : low ((low t u).1 * (low c d).1) ((low t u).2 * (low c d).2) = low (t * c) (u * d) := by
  obtain ⟨a, b, g, e1, hg, hb, rfl, rfl⟩ := low_ex t hu
  obtain ⟨p, q, h, e2, hh, hq, rfl, rfl⟩ := low_ex c hd
  rw [e1, e2]
  symm
  refine low_of (k := g * h) (Int.ne_of_gt (Int.mul_pos hb hq)) (Int.mul_ne_zero hg hh) ?_ ?_
  · show a * g * (p * h) = g * h * (a * p)
    grind
  · show b * g * (q * h) = g * h * (b * q)
    grind
theorem low_ne0 {t u : Int} (hu : u ≠ 0) : (low t u).1 = 0 ↔ t = 0 := by
  have h := low_fst (t := t) hu
  constructor
  · intro z
    rw [z, Int.zero_mul] at h
    exact h.symm
  · intro z
    rw [z] at h
    rcases Int.mul_eq_zero.mp h with y | y
    · rw [z]; exact y
    · exact absurd y (lowG_ne hu)
theorem low_by {t u c d : Int} (hu : u ≠ 0) (hd : d ≠ 0) (hc : c ≠ 0) : low ((low t u).1 * (low c d).2) ((low t u).2 * (low c d).1) = low (t * d) (u * c) := by
  have z : ¬ (low c d).1 = 0 := fun y => hc ((low_ne0 (t := c) hd).mp y)
  obtain ⟨a, b, g, e1, hg, hb, rfl, rfl⟩ := low_ex t hu
  obtain ⟨p, q, h, e2, hh, hq, rfl, rfl⟩ := low_ex c hd
  rw [e2] at z
  rw [e1, e2]
  symm
  refine low_of (k := g * h) (Int.mul_ne_zero (Int.ne_of_gt hb) z) (Int.mul_ne_zero hg hh) ?_ ?_
  · show a * g * (q * h) = g * h * (a * q)
    grind
  · show b * g * (p * h) = g * h * (b * p)
    grind
theorem low_neg {t u : Int} (hu : u ≠ 0) : low (-(low t u).1) (low t u).2 = low (-t) u := by
  obtain ⟨a, b, g, e1, hg, hb, rfl, rfl⟩ := low_ex t hu
  rw [e1]
  symm
  refine low_of (k := g) (Int.ne_of_gt hb) hg ?_ ?_
  · show -(a * g) = g * -a
    grind
  · show b * g = g * b
    grind
/-- a fraction in lowest terms, its sign turned -/
theorem low_neg_eq {t u : Int} (hu : u ≠ 0) : low (-t) u = (-(low t u).1, (low t u).2) := by
  rw [← low_neg hu]
  refine low_id (low_pos hu) ?_
  rw [Int.neg_gcd]
  exact low_gcd hu
def iabs (i : Int) : Int := if i < 0 then -i else i
theorem iabs_eq (i : Int) : iabs i = (i.natAbs : Int) := by unfold iabs; split <;> omega
theorem low_abs {t u : Int} (hu : u ≠ 0) : low (iabs (low t u).1) (low t u).2 = low (iabs t) (iabs u) := by
  obtain ⟨a, b, g, e1, hg, hb, rfl, rfl⟩ := low_ex t hu
  rw [e1, iabs_eq, iabs_eq, iabs_eq]
  symm
  refine low_of (k := g.natAbs) (Int.ne_of_gt hb) (by omega) ?_ ?_
  · show ((a * g).natAbs : Int) = g.natAbs * (a.natAbs : Int)
    rw [Int.natAbs_mul, Int.natCast_mul, Int.mul_comm]
  · show ((b * g).natAbs : Int) = g.natAbs * b
    rw [Int.natAbs_mul, Int.natCast_mul, Int.mul_comm, show (b.natAbs : Int) = b by omega]
theorem low_floor {t u : Int} (hu : u ≠ 0) : (low t u).1 / (low t u).2 = t.fdiv u := by
  obtain ⟨a, b, g, e1, hg, hb, rfl, rfl⟩ := low_ex t hu
  rw [e1]
  show a / b = (a * g).fdiv (b * g)
  rcases Int.lt_or_gt_of_ne hg with h | h
  · rw [show a * g = -(a * -g) by grind, show b * g = -(b * -g) by grind, Int.neg_fdiv_neg, Int.fdiv_eq_ediv_of_nonneg _ (Int.le_of_lt (Int.mul_pos hb (by omega))), Int.mul_ediv_mul_of_pos_left _ _ (by omega)]
  · rw [Int.fdiv_eq_ediv_of_nonneg _ (Int.le_of_lt (Int.mul_pos hb h)), Int.mul_ediv_mul_of_pos_left _ _ h]
theorem gcd_step {x y : Int} (hx : 0 ≤ x) (hy : 0 ≤ y) : Int.gcd y (x % y) = Int.gcd x y := by
  obtain ⟨m, rfl⟩ := Int.eq_ofNat_of_zero_le hx
  obtain ⟨n, rfl⟩ := Int.eq_ofNat_of_zero_le hy
  rw [← Int.natCast_emod, Int.gcd_natCast_natCast, Int.gcd_natCast_natCast, Nat.gcd_comm n, ← Nat.gcd_rec, Nat.gcd_comm]
end Ps

/-! Defs, methods, classes, operators, properties of the text as things to be called, their addresses hidden. -/
namespace Ps
open PySem PySem.Spec PyProof.Rows PySem.W L2

/-- where one stands, the same for all defs of the text -/
structure Cz where
  P : Program
  w : World
  K : Frag
  mg : Str → Option Value
  base : Heap
abbrev Cz.ok (Z : Cz) (CX : CXT) (k : Nat) (f : Addr) (fd : FuncData) (ps : List Str) (sp : Sp) : Prop := FnOk Z.P Z.w Z.K Z.mg Z.base CX k f fd ps sp
/-- a def -/
def Cal (Z : Cz) (CX : CXT) (k : Nat) (x : Str) (ps : List Str) (dvs : List V) (sp : Sp) : Prop := ∃ f fd ds, Z.ok CX k f fd ps sp ∧ Z.mg x = some (.ref f) ∧ keepIn Z.K (.ref f) = true ∧ Binds Z.K fd ps ds ∧ Vals dvs ds
/-- a method m of the class at C -/
def CalM (Z : Cz) (CX : CXT) (k : Nat) (C : Addr) (m : Str) (ps : List Str) (dvs : List V) (sp : Sp) : Prop := ∃ f fd ds, Z.ok CX k f fd ps sp ∧ Meth Z.K C m f ∧ Cls Z.K C ∧ Binds Z.K fd ps ds ∧ Vals dvs ds
/-- the class at C, made by its __init__ -/
def CalC (Z : Cz) (CX : CXT) (k : Nat) (C : Addr) (x : Str) (ps : List Str) (dvs : List V) (sp : Sp) : Prop := ∃ f fd ds, Z.ok CX k f fd ps sp ∧ Mk Z.K C f ∧ Z.mg x = some (.ref C) ∧ Binds Z.K fd ps ds ∧ Vals dvs ds
/-- a special method nm of the class at C -/
def CalS (Z : Cz) (CX : CXT) (k : Nat) (C : Addr) (nm : Str) (ps : List Str) (sp : Sp) : Prop := ∃ f fd, Z.ok CX k f fd ps sp ∧ OwnOp Z.K C f nm ∧ Binds Z.K fd ps []
/-- a property -/
def CalP (Z : Cz) (CX : CXT) (k : Nat) (C : Addr) (nm : Str) (sp : Sp) : Prop := ∃ p g fd ds, Z.ok CX k g fd ["self"] sp ∧ PropOf Z.K C nm p g ∧ Cls Z.K C ∧ Binds Z.K fd ["self"] ds ∧ Vals [] ds

/-- a body stands in Z -/
structure InZ (Z : Cz) (X : Cx) : Prop where
  P : X.prog = Z.P
  w : X.w = Z.w
  K : X.K = Z.K
  mg : X.mg = Z.mg
  base : X.base = Z.base

section
variable {Z : Cz} {X : Cx} {CX : CXT} {k : Nat} {C : Addr} {ps : List Str} {sp : Sp} {dvs : List V} {E : XK} {x m nm : Str} {p pos apos : Pos} {e o a b : Expr} {es : List Expr} {ta tb : TE} {t : TA}
theorem InZ.ok (z : InZ Z X) {f : Addr} {fd : FuncData} (G : Z.ok CX k f fd ps sp) : FnOk X.prog X.w X.K X.mg X.base CX k f fd ps sp := by
  obtain ⟨h1, h2, h3, h4, h5⟩ := z
  rw [h1, h2, h3, h4, h5]
  exact G
theorem pe_cal (c : Cal Z CX k x ps dvs sp) (hr : Room k X.A) (hg : Gl X x) (hx : Passes CX X E) (ha : PA X (e :: es) t) (z : InZ Z X := by exact ⟨rfl, rfl, rfl, rfl, rfl⟩)
    (hdb : (x == ("__debug__" : Str)) = false := by decide) (he : starEach (e :: es) X.env = (false, eval e X.env) :: starEach es X.env := by rfl) (hpl : (backTo pos (starEach es X.env)).any (·.1) = false := by rfl) :
    PE X (.Call (.Name x p) (e :: es) [] pos) (tCall sp dvs E t) := by
  obtain ⟨f, fd, ds, G, h1, h2, h3, h4⟩ := c
  exact pe_call (z.ok G) hr hg (by rw [z.mg]; exact h1) (by rw [z.K]; exact h2) (by rw [z.K]; exact h3) h4 hx ha hdb he hpl
theorem pe_cal0 (c : Cal Z CX k x ps dvs sp) (hr : Room k X.A) (hg : Gl X x) (hx : Passes CX X E) (z : InZ Z X := by exact ⟨rfl, rfl, rfl, rfl, rfl⟩)
    (hdb : (x == ("__debug__" : Str)) = false := by decide) : PE X (.Call (.Name x p) [] [] pos) (tCall sp dvs E tNil) := by
  obtain ⟨f, fd, ds, G, h1, h2, h3, h4⟩ := c
  exact pe_call0 (z.ok G) hr hg (by rw [z.mg]; exact h1) (by rw [z.K]; exact h2) (by rw [z.K]; exact h3) h4 hx hdb
theorem pe_calM {pl : Sem Bool} (c : CalM Z CX k C m ps dvs sp) (hr : Room k X.A) (hx : Passes CX X E) (he : PE X o ta) (ha : PA X (e :: es) t) (z : InZ Z X := by exact ⟨rfl, rfl, rfl, rfl, rfl⟩)
    (hst : starEach (e :: es) X.env = (false, eval e X.env) :: starEach es X.env := by rfl) (hpl : (backTo pos (starEach es X.env)).any (·.1) = false := by rfl)
    (ht : eval (.Call (.Attribute o m apos) (e :: es) [] pos) X.env = (do
      let ov ← eval o X.env
      standAt apos.atName
      let (f, first) ← holding [ov] (getMethod ov m pl)
      callWith pos f first (backTo pos (starEach (e :: es) X.env)) (backToKw pos (keywordEach [] X.env))) := by rfl) :
    PE X (.Call (.Attribute o m apos) (e :: es) [] pos) (tMeth C m sp dvs E ta t) := by
  obtain ⟨f, fd, ds, G, h1, h2, h3, h4⟩ := c
  exact pe_meth (pl := pl) he (by rw [z.K]; exact h2) (by rw [z.K]; exact h1) (z.ok G) hr (by rw [z.K]; exact h3) h4 hx ha hst hpl ht
theorem pe_calM0 {pl : Sem Bool} (c : CalM Z CX k C m ps dvs sp) (hr : Room k X.A) (hx : Passes CX X E) (he : PE X o ta) (z : InZ Z X := by exact ⟨rfl, rfl, rfl, rfl, rfl⟩)
    (ht : eval (.Call (.Attribute o m apos) [] [] pos) X.env = (do
      let ov ← eval o X.env
      standAt apos.atName
      let (f, first) ← holding [ov] (getMethod ov m pl)
      callWith pos f first (backTo pos (starEach [] X.env)) (backToKw pos (keywordEach [] X.env))) := by rfl) :
    PE X (.Call (.Attribute o m apos) [] [] pos) (tMeth C m sp dvs E ta tNil) := by
  obtain ⟨f, fd, ds, G, h1, h2, h3, h4⟩ := c
  exact pe_meth0 (pl := pl) he (by rw [z.K]; exact h2) (by rw [z.K]; exact h1) (z.ok G) hr (by rw [z.K]; exact h3) h4 hx ht
theorem pe_calC (c : CalC Z CX k C x ps dvs sp) (hr : Room (k + 1) X.A) (hg : Gl X x) (hx : Passes CX X E) (ha : PA X (e :: es) t) (z : InZ Z X := by exact ⟨rfl, rfl, rfl, rfl, rfl⟩)
    (hdb : (x == ("__debug__" : Str)) = false := by decide) (he : starEach (e :: es) X.env = (false, eval e X.env) :: starEach es X.env := by rfl) (hpl : (backTo pos (starEach es X.env)).any (·.1) = false := by rfl) :
    PE X (.Call (.Name x p) (e :: es) [] pos) (tMake C sp dvs E t) := by
  obtain ⟨f, fd, ds, G, h1, h2, h3, h4⟩ := c
  exact pe_make (by rw [z.K]; exact h1) (z.ok G) hr hg (by rw [z.mg]; exact h2) (by rw [z.K]; exact h3) h4 hx ha hdb he hpl
theorem pe_calP (c : CalP Z CX k C nm sp) (hr : Room (k + 1) X.A) (hx : Passes CX X.nox E) (he : PE X e ta) (hab : attributeBase e nm X.env (eval e X.env) = eval e X.env) (z : InZ Z X := by exact ⟨rfl, rfl, rfl, rfl, rfl⟩) : PE X (.Attribute e nm pos) (tProp C sp [] E ta) := by
  obtain ⟨p, g, fd, ds, G, h1, h2, h3, h4⟩ := c
  exact pe_prop he (by rw [z.K]; exact h2) (by rw [z.K]; exact h1) (z.ok G) hr (by rw [z.K]; exact h3) h4 hx hab

/-- what is known of the number methods of a class and of int's -/
structure NumF (K : Frag) (C : Addr) (nm : String) : Prop where
  l : ∃ f, findIn K (.ref C) (PySem.dunder nm) = some (some (.ref f))
  r : ∃ f, findIn K (.ref C) (dunderR nm) = some (some (.ref f))
  il : ∃ o, findIn K (.type "int") (PySem.dunder nm) = some o
  ir : ∃ o, findIn K (.type "int") (dunderR nm) = some o
  sub : subIn K (.type "int") (.ref C) = some false
  sup : subIn K (.ref C) (.type "int") = some false
/-- a number on the right: x + y, x an own instance, y one or an int -/
def rNum (C : Addr) (sp : Sp) (E : XK) : R2 := fun x y H Q => InsC C H x ∧ (InsC C H y ∨ ∃ i, y = .int i) ∧ sp [x, y] H Q E
theorem op_num {op : Operator} (c : CalS Z CX k C (PySem.dunder op.info.2) ps sp) (N : NumF Z.K C op.info.2) (hr : Room k X.A) (hx : Passes CX X E) (z : InZ Z X := by exact ⟨rfl, rfl, rfl, rfl, rfl⟩) : OpR X (binaryOp op) (rNum C sp E) := by
  obtain ⟨f, fd, G, h1, h2⟩ := c
  obtain ⟨_, ⟨fr, hfr⟩, ⟨o1, ho1⟩, ⟨o2, ho2⟩, hs1, hs2⟩ := N
  have z' := z
  obtain ⟨e1, e2, e3, e4, e5⟩ := z
  intro pins s σ H x y v u Q I rx ry h
  obtain ⟨hx', hy | hy, hsp⟩ := h
  · exact op_own (by rw [e3]; exact h1) (z'.ok G) hr (by rw [e3]; exact h2) hx pins s σ H x y v u Q I rx ry ⟨hx', hy, hsp⟩
  · exact op_ownI (rc := some (.ref fr)) (by rw [e3]; exact h1) (by rw [e3]; exact hfr) (.inr ⟨fr, rfl⟩) (by rw [e3]; exact ho1) (by rw [e3]; exact ho2) (by rw [e3]; exact hs1) (z'.ok G) hr (by rw [e3]; exact h2) hx pins s σ H x y v u Q I rx ry ⟨hx', hy, hsp⟩
theorem op_rev {op : Operator} {id : String} (c : CalS Z CX k C (dunderR op.info.2) ps sp) (N : NumF Z.K C op.info.2) (hfl : fillsNumberSlot (.type "int") op.info.2 = pure true) (sl : Slot "int" (PySem.dunder op.info.2) id)
    (hd : ∀ {s : Shared} {x C dx : Addr} {t : Tok} {i : Int} {Q : Value → Shared → Prop}, s.heap.get? x = some (instObj C dx) → Q .notImplemented s → wpAny (model X.prog X.w) X.A (call (.builtin id) [.int i t, .ref x]) Q X.xe s)
    (hr : Room k X.A) (hx : Passes CX X E) (z : InZ Z X := by exact ⟨rfl, rfl, rfl, rfl, rfl⟩) : OpR X (binaryOp op) (rRefI C sp E) := by
  obtain ⟨f, fd, G, h1, h2⟩ := c
  obtain ⟨⟨fl, hfl'⟩, _, _, _, hs1, hs2⟩ := N
  have z' := z
  obtain ⟨e1, e2, e3, e4, e5⟩ := z
  exact op_refI (f' := fl) (by rw [e3]; exact h1) (by rw [e3]; exact hfl') (by rw [e3]; exact hs2) hfl sl hd (z'.ok G) hr (by rw [e3]; exact h2) hx
theorem op_radd (c : CalS Z CX k C "__radd__" ps sp) (N : NumF Z.K C "add") (hr : Room k X.A) (hx : Passes CX X E) (z : InZ Z X := by exact ⟨rfl, rfl, rfl, rfl, rfl⟩) : OpR X (binaryOp .Add) (rRefI C sp E) :=
  op_rev (op := .Add) c N F.fills_int_add F.slot_int_add (fun h q => dec_add h q) hr hx z
theorem op_rsub (c : CalS Z CX k C "__rsub__" ps sp) (N : NumF Z.K C "sub") (hr : Room k X.A) (hx : Passes CX X E) (z : InZ Z X := by exact ⟨rfl, rfl, rfl, rfl, rfl⟩) : OpR X (binaryOp .Sub) (rRefI C sp E) :=
  op_rev (op := .Sub) c N F.fills_int_sub F.slot_int_sub (fun h q => dec_sub h q) hr hx z
theorem op_rmul (c : CalS Z CX k C "__rmul__" ps sp) (N : NumF Z.K C "mul") (hr : Room k X.A) (hx : Passes CX X E) (z : InZ Z X := by exact ⟨rfl, rfl, rfl, rfl, rfl⟩) : OpR X (binaryOp .Mult) (rRefI C sp E) :=
  op_rev (op := .Mult) c N F.fills_int_mul F.slot_int_mul (fun h q => dec_mul h q) hr hx z
theorem un_cal (c : CalS Z CX k C "__neg__" ps sp) (hr : Room k X.A) (hx : Passes CX X E) (z : InZ Z X := by exact ⟨rfl, rfl, rfl, rfl, rfl⟩) : UnR X (unaryOp .USub) (rUOwn C sp E) := by
  obtain ⟨f, fd, G, h1, h2⟩ := c
  have z' := z
  obtain ⟨e1, e2, e3, e4, e5⟩ := z
  exact un_own (by rw [e3]; exact h1) (z'.ok G) hr (by rw [e3]; exact h2) hx
theorem abs_cal (c : CalS Z CX k C "__abs__" ps sp) (hr : Room (k + 1) X.A) (hx : Passes CX X E) (z : InZ Z X := by exact ⟨rfl, rfl, rfl, rfl, rfl⟩) : CallR X (.builtin "abs") (fun xs H Q => ∃ x, xs = [x] ∧ InsC C H x ∧ sp [x] H Q E) := by
  obtain ⟨f, fd, G, h1, h2⟩ := c
  have z' := z
  obtain ⟨e1, e2, e3, e4, e5⟩ := z
  exact call_absO (by rw [e3]; exact h1) (z'.ok G) hr (by rw [e3]; exact h2) hx
end
/-! ### tests -/
theorem iteD {c A B : Prop} [Decidable c] (h1 : c → A) (h2 : ¬ c → B) : if decide c = true then A else B := by
  by_cases h : c
  · rw [decide_eq_true h]; exact iteT (h1 h)
  · rw [decide_eq_false h]; exact iteF (h2 h)
theorem iteND {c A B : Prop} [Decidable c] (h1 : ¬ c → A) (h2 : c → B) : if (!decide c) = true then A else B := by
  by_cases h : c
  · rw [decide_eq_true h]; exact iteF (h2 h)
  · rw [decide_eq_false h]; exact iteT (h1 h)
theorem iteB {b : Bool} {A B : Prop} (h1 : b = true → A) (h2 : b = false → B) : if b = true then A else B := by
  cases b with
  | true => exact iteT (h1 rfl)
  | false => exact iteF (h2 rfl)
/-! ### short words for built-ins -/
section
variable {X : Cx} {e : Expr} {te : TE} {p pos : Pos}
/-- int(e) of an int -/
def rInt1 : List V → Hp → VK → Prop := fun xs H Q => ∃ i, xs = [.int i] ∧ Q (.int i) H
theorem call_intI : CallR X (.type "int") rInt1 := by
  intro pins s σ H xs us Q I r h
  exact call_int1 pins s σ H xs us Q I r (.inl h)
theorem pe_int1 (hg : Gl X "int") (hm : X.mg "int" = none) (he : PE X e te) (hs : starEach (e :: []) X.env = (false, eval e X.env) :: starEach [] X.env := by rfl) (hpl : (backTo pos (starEach [] X.env)).any (·.1) = false := by rfl) : PE X (.Call (.Name "int" p) [e] [] pos) (tCB rInt1 (tCons te tNil)) :=
  pe_callTy call_intI hg hm (by decide +kernel) (pa_cons he pa_nil hs) (by decide) (by decide) hs hpl
end
/-! ### from what stands behind the top -/
section
variable {Z : Cz} {CX : CXT} {k : Nat} {C : Addr} {ps : List Str} {sp : Sp} {dvs : List V} {x m nm qual : Str} {st : Stmt}
theorem Cal.mono {j : Nat} (c : Cal Z CX k x ps dvs sp) (h : k ≤ j) : Cal Z CX j x ps dvs sp := by
  obtain ⟨f, fd, ds, G, h1⟩ := c
  exact ⟨f, fd, ds, G.mono h, h1⟩
theorem CalM.mono {j : Nat} (c : CalM Z CX k C x ps dvs sp) (h : k ≤ j) : CalM Z CX j C x ps dvs sp := by
  obtain ⟨f, fd, ds, G, h1⟩ := c
  exact ⟨f, fd, ds, G.mono h, h1⟩
theorem CalS.mono {j : Nat} (c : CalS Z CX k C x ps sp) (h : k ≤ j) : CalS Z CX j C x ps sp := by
  obtain ⟨f, fd, G, h1⟩ := c
  exact ⟨f, fd, G.mono h, h1⟩
end
end Ps

/-! Shares: the promises of the defs of shares.py where nothing is raised. -/
namespace Ps
open PySem PySem.Spec PyProof.Rows PySem.W L2

/-! ### floor division by any divisor but 0, below 2 ^ 9000 -/
def CDivG (_ j : Int) : Prop := j ≠ 0 ∧ j.natAbs.log2 < 9000
theorem op_fdivG {X : Cx} : OpR X (binaryOp .FloorDiv) (rI CDivG fun i j => .int (i.fdiv j)) := opI fun i j _ _ _ _ _ hc q => floordiv_int hc.1 q (.inl (PyProof.noPylong_of_log2 hc.2))
theorem divG {i j : Int} {b : Nat} (h : j ≠ 0) (hb : j.natAbs < 2 ^ b) (h0 : 0 < b) (h9 : b ≤ 9000) : CDivG i j := ⟨h, Nat.lt_of_lt_of_le (PySem.Flt.log2_lt_of h0 hb) h9⟩

/-- the name of a built-in class -/
theorem pe_ty {X : Cx} {x : Str} {pos : Pos} (T : String) (hg : Gl X x) (hm : X.mg x = none) (hv : bootBuiltins x = some (.type T)) (hn : x ≠ "__name__" := by decide) (hd : (x == ("__debug__" : Str)) = false := by decide) : PE X (.Name x pos) (tC (.ty T)) := pe_bltn hg hm hv rfl hn hd

/-! ### the data -/
def shF (t u : Int) : List (Str × V) := [("own_top", .int t), ("own_under", .int u)]
/-- v is a share t / u -/
def Sh (C : Addr) (H : Hp) (v : V) (q : Int × Int) : Prop := ∃ a dx, v = .ref a ∧ H a = some (.ins C dx (shF q.1 q.2))
theorem Sh.mono {C : Addr} {H H' : Hp} {v : V} {q : Int × Int} (e : Same H H') (h : Sh C H v q) : Sh C H' v q := by
  obtain ⟨a, dx, hv, h⟩ := h
  exact ⟨a, dx, hv, e _ _ h⟩
theorem Sh.ins {C : Addr} {H : Hp} {v : V} {q : Int × Int} (h : Sh C H v q) : InsC C H v := by
  obtain ⟨a, dx, hv, h⟩ := h
  exact ⟨a, dx, _, hv, h⟩
theorem shF_top (t u : Int) : (shF t u).lookup ("own_top" : Str) = some (.int t) := rfl
theorem shF_under (t u : Int) : (shF t u).lookup ("own_under" : Str) = some (.int u) := by
  unfold shF
  rw [List.lookup_cons]
  rfl

/-- a number: a share or an int -/
def Nb (C : Addr) (H : Hp) (v : V) (q : Int × Int) : Prop := Sh C H v q ∨ ∃ i, v = .int i ∧ q = (i, 1)
theorem Nb.mono {C : Addr} {H H' : Hp} {v : V} {q : Int × Int} (e : Same H H') (h : Nb C H v q) : Nb C H' v q := by
  rcases h with h | h
  · exact .inl (h.mono e)
  · exact .inr h
theorem Nb.num {C : Addr} {H : Hp} {v : V} {q : Int × Int} (h : Nb C H v q) : InsC C H v ∨ ∃ i, v = .int i := by
  rcases h with h | ⟨i, h, _⟩
  · exact .inl h.ins
  · exact .inr ⟨i, h⟩
/-- sizes: both parts below 2 ^ n, the under not 0 -/
structure Sz (n : Nat) (q : Int × Int) : Prop where
  ne : q.2 ≠ 0
  t : q.1.natAbs < 2 ^ n
  u : q.2.natAbs < 2 ^ n

/-- what stands at the top of the text, as far as shares go -/
structure ShT (Z : Cz) (C : Addr) : Prop where
  cl : Cls Z.K C
  nT : NoAttr Z.K C "own_top"
  nU : NoAttr Z.K C "own_under"
  mgC : Z.mg "Share" = some (.ref C)
  isi : Z.mg "isinstance" = none
  int : Z.mg "int" = none
  bool : Z.mg "bool" = none
  abs : Z.mg "abs" = none
  ha : findIn Z.K (.ref C) "__class__" = some (some (.builtin "object.__class__"))
  hn : specialIn Z.K (.builtin "object.__class__") "__get__" = some (some (.builtin "getset_descriptor.__get__"))
  htk : takesIn Z.K (.builtin "object.__class__") = some true
  hm : mroIn Z.K C (.type "object") = some true
  kCC : kitOne Z.K (.ref C) (.ref C) = some true
  kCI : kitOne Z.K (.ref C) (.type "int") = some false
  kIC : kitOne Z.K (.type "int") (.ref C) = some false
  kTC : ∀ t ∈ ([.type "bool", .type "str", .type "NoneType", .type "list", .type "tuple", .type "dict"] : List Value), kitOne Z.K t (.ref C) = some false
theorem ShT.ty {Z : Cz} {C : Addr} (T : ShT Z C) {H : Hp} {a dx : Addr} {fs : List (Str × V)} (h : H a = some (.ins C dx fs)) : TyX Z.K H (.ref a) (.ref C) := .base (.ins h T.cl T.ha T.hn T.htk T.hm)

section
variable {Z : Cz}

/-- is_integer -/
def spIsInt (K : Frag) : Sp := fun vs H Q _ => ∃ v t, vs = [v] ∧ TyX K H v t ∧ ((t = .type "int" ∧ Q (.bl true) H) ∨ (t = .type "bool" ∧ Q (.bl false) H) ∨ (kitOne K t (.type "int") = some false ∧ Q (.bl false) H))
/-- common: the greatest common divisor -/
def spCommon : Sp := fun vs H Q _ => ∃ a b : Int, vs = [.int a, .int b] ∧ Q (.int (Int.gcd a b)) H
/-- Share.__init__ -/
def spShInit (C : Addr) : Sp := fun vs H Q _ => ∃ (p dx : Addr) (t u : Int), vs = [.ref p, .int t, .int u] ∧ H p = some (.ins C dx []) ∧ u ≠ 0 ∧ u.natAbs < 2 ^ 9000 ∧
  ∀ H' : Hp, (∀ b, b ≠ p → H' b = H b) → H' p = some (.ins C dx (shF (low t u).1 (low t u).2)) → Q .non H'
end
end Ps

/-! Shares: their operators, where nothing is raised. -/
namespace Ps
open PySem PySem.Spec PyProof.Rows PySem.W L2

theorem Same.upd {H : Hp} {p : Addr} {o : HO} (h : H p = none) : Same H (L2.upd H p o) := fun b u e => by
  rw [upd_ne (ne_of_none e h)]
  exact e
/-- Share(t, u): what its reading asks -/
theorem mk_sh {C : Addr} {H : Hp} {Q : VK} {E : XK} {t u : Int} (hu : u ≠ 0) (hb : u.natAbs < 2 ^ 9000) (k : ∀ v H', Same H H' → Sh C H' v (low t u) → Q v H') :
    ∀ x dx, H x = none → H dx = none → dx ≠ x → spShInit C [.ref x, .int t, .int u] (upd (upd H dx (.own x)) x (.ins C dx [])) (fun v H2 => v = .non ∧ Q (.ref x) H2) E := by
  intro x dx hx hdx hne
  refine ⟨x, dx, t, u, rfl, upd_same, hu, hb, fun H' h1 h2 => ⟨rfl, ?_⟩⟩
  refine k _ H' (fun b o e => ?_) ⟨x, dx, rfl, h2⟩
  rw [h1 b (ne_of_none e hx), upd_ne (ne_of_none e hx), upd_ne (ne_of_none e hdx)]
  exact e

/-- what the shares' defs promise one another -/
abbrev CShare (Z : Cz) (C : Addr) : Prop := CalC Z CX0 2 C "Share" ["self", "top", "under"] [] (spShInit C)
abbrev CShare1 (Z : Cz) (C : Addr) : Prop := CalC Z CX0 2 C "Share" ["self", "top", "under"] [.int 1] (spShInit C)
/-- from a number a share -/
def spNum (C : Addr) : Sp := fun vs H Q _ => ∃ v q, vs = [v] ∧ Nb C H v q ∧ ∀ v' H', Same H H' → Sh C H' v' q → Q v' H'
abbrev CNum (Z : Cz) (C : Addr) : Prop := Cal Z CX0 4 "share_of_number" ["value"] [] (spNum C)
/-- two numbers to a share -/
def spBin (C : Addr) (n : Nat) (g : Int × Int → Int × Int → Int × Int) : Sp := fun vs H Q _ => ∃ x y q r, vs = [x, y] ∧ Sh C H x q ∧ Nb C H y r ∧ Sz n q ∧ Sz n r ∧ ∀ v H', Same H H' → Sh C H' v (g q r) → Q v H'
def spUn (C : Addr) (n : Nat) (g : Int × Int → Int × Int) : Sp := fun vs H Q _ => ∃ x q, vs = [x] ∧ Sh C H x q ∧ Sz n q ∧ ∀ v H', Same H H' → Sh C H' v (g q) → Q v H'
def gAdd (q r : Int × Int) : Int × Int := low (q.1 * r.2 + r.1 * q.2) (q.2 * r.2)
def gMul (q r : Int × Int) : Int × Int := low (q.1 * r.1) (q.2 * r.2)
def gNeg (q : Int × Int) : Int × Int := low (-q.1) q.2
def gAbs (q : Int × Int) : Int × Int := low (iabs q.1) q.2

theorem lt_mul {i j : Int} (hi : i.natAbs < 2 ^ 4000) (hj : j.natAbs < 2 ^ 4000) : CMulW i j := wide_mul hi hj (by decide) (by decide) (by decide)
theorem mul_lt {i j : Int} (hi : i.natAbs < 2 ^ 4000) (hj : j.natAbs < 2 ^ 4000) : (i * j).natAbs < 2 ^ 9000 :=
  Nat.lt_of_lt_of_le (wide_lt hi hj) (Nat.pow_le_pow_right (by decide) (by decide))
theorem lt_up {i : Int} {m n : Nat} (h : i.natAbs < 2 ^ m) (hm : m ≤ n) : i.natAbs < 2 ^ n := Nat.lt_of_lt_of_le h (Nat.pow_le_pow_right (by decide) hm)

section
variable {Z : Cz} {f C : Addr} {fd : FuncData}
def gSub (q r : Int × Int) : Int × Int := gAdd q (gNeg r)
def gBy (q r : Int × Int) : Int × Int := low (q.1 * r.2) (q.2 * r.1)
theorem Sz.neg {n : Nat} {q : Int × Int} (h : Sz n q) : Sz n (gNeg q) := by
  refine ⟨Int.ne_of_gt (low_pos h.ne), Nat.lt_of_le_of_lt (low_le1 h.ne) ?_, Nat.lt_of_le_of_lt (low_le2 h.ne) h.u⟩
  rw [Int.natAbs_neg]
  exact h.t
theorem Sz.up {m n : Nat} {q : Int × Int} (h : Sz m q) (hm : m ≤ n) : Sz n q := ⟨h.ne, lt_up h.t hm, lt_up h.u hm⟩
abbrev CAdd (Z : Cz) (C : Addr) : Prop := CalS Z CX0 5 C "__add__" ["self", "other"] (spBin C 4000 gAdd)
abbrev CMul (Z : Cz) (C : Addr) : Prop := CalS Z CX0 5 C "__mul__" ["self", "other"] (spBin C 4000 gMul)
abbrev CNeg (Z : Cz) (C : Addr) : Prop := CalS Z CX0 4 C "__neg__" ["self"] (spUn C 9000 gNeg)
/-- by: the other is not 0 -/
def spBy (C : Addr) : Sp := fun vs H Q _ => ∃ x y q r, vs = [x, y] ∧ Sh C H x q ∧ Nb C H y r ∧ Sz 4000 q ∧ Sz 4000 r ∧ r.1 ≠ 0 ∧ ∀ v H', Same H H' → Sh C H' v (gBy q r) → Q v H'
/-- a field, or what is reckoned of a share -/
def spGet (C : Addr) (n : Nat) (g : Int × Int → V) : Sp := fun vs H Q _ => ∃ x q, vs = [x] ∧ Sh C H x q ∧ Sz n q ∧ Q (g q) H
end
end Ps

/-! The law's own draws: numbers within bounds. -/
namespace Ps
open PySem PySem.Spec PyProof.Rows PySem.W L2

/-- built-in names that the law uses -/
structure DrT (Z : Cz) : Prop where
  int : Z.mg "int" = none
  len : Z.mg "len" = none
  range : Z.mg "range" = none
  max : Z.mg "max" = none
  min : Z.mg "min" = none
def Below (ms ns : List Int) : Prop := ms.length = ns.length ∧ ∀ (i : Nat) (m n : Int), ms[i]? = some m → ns[i]? = some n → 0 ≤ m ∧ m < n
theorem Below.nil : Below [] [] := ⟨rfl, fun i m n h _ => by simp at h⟩
theorem Below.snoc {ms ns : List Int} {m n : Int} (h : Below ms ns) (h0 : 0 ≤ m) (h1 : m < n) : Below (ms ++ [m]) (ns ++ [n]) := by
  refine ⟨by rw [List.length_append, List.length_append, h.1]; rfl, fun i a b ha hb => ?_⟩
  by_cases hi : i < ms.length
  · rw [List.getElem?_append_left hi] at ha
    rw [List.getElem?_append_left (by rw [← h.1]; exact hi)] at hb
    exact h.2 i a b ha hb
  · rw [List.getElem?_append_right (by omega)] at ha
    rw [List.getElem?_append_right (by rw [← h.1]; omega)] at hb
    rw [← h.1] at hb
    cases e : i - ms.length with
    | zero =>
      rw [e] at ha hb
      simp at ha hb
      subst ha; subst hb
      exact ⟨h0, h1⟩
    | succ j =>
      rw [e] at ha
      simp at ha
theorem take_snoc {ns : List Int} {i : Nat} {n : Int} (h : ns[i]? = some n) : ns.take (i + 1) = ns.take i ++ [n] := by
  rw [List.take_succ, h]
  rfl
/-- sizes that may be drawn by -/
structure Sizes (ns : List Int) : Prop where
  len : ns.length ≤ 10000
  pos : ∀ n ∈ ns, 0 < n ∧ n < 1073741824
def spNumbers (K : Frag) : Sp := fun vs H Q _ => ∃ (c s : Int) (a : Addr) (ns : List Int), vs = [.int c, .int s, .ref a] ∧ SqL K H a (ns.map V.int) ∧ Sizes ns ∧ 0 ≤ s ∧ s ≤ 1000 ∧
  ∀ p H' ms, Same H H' → H p = none → H' p = some (.lst (ms.map V.int)) → Below ms ns → Q (.ref p) H'
theorem small1000' {n : Nat} (h : n ≤ 100000) : n < sizeLine := Nat.lt_of_le_of_lt h (by decide)
theorem pow_ok {i j : Int} (h0 : 0 ≤ j) (h1 : j ≤ 1000000) (h2 : i.natAbs < 2 ^ 64) : L2.CPow i j := ⟨h0, h1, h2⟩
section
variable {Z : Cz} {f : Addr} {fd : FuncData}
theorem ok_numbers (F : Fun Z.K "_law_numbers" "_law_numbers" s_lw_numbers f fd) (T : DrT Z) : Z.ok CX0 1 f fd ["_law_cell", "_law_salt", "_law_sizes"] (spNumbers Z.K) := by
  refine F.ok sc_lw_numbers (fun vs H Q E h => ?_) (fun cdv A outer s H vs Q E hr h => ?_)
  · obtain ⟨c, s, a, ns, rfl, _⟩ := h
    rfl
  · obtain ⟨c, sa, a, ns, rfl, hS, hz, hs0, hs1, k⟩ := h
    have nd := sc_lw_numbers.nd
    refine ⟨_, (pss_cons (ps_set (i := 3) sc_lw_numbers.nd rfl (Or.inl rfl) (pe_callB (call_max2 rfl) (by rfl) T.max (by decide +kernel) (pa_cons (pe_int1 (by rfl) T.int (pv 0)) (pa_cons (pe_int1 (by rfl) T.int (pe_op op_sub (pe_un un_neg pe_int) (pv 0))) pa_nil))))
      (pss_cons (ps_set (i := 4) sc_lw_numbers.nd rfl (Or.inl rfl) (pv 3))
      (pss_cons (ps_set (i := 5) sc_lw_numbers.nd rfl (Or.inl rfl) (pe_lst pa_nil))
      (pss_cons (ps_for PassesOwn.never rfl (pi_range1 (by rfl) T.range (pa_cons (pe_callB call_len_seq (by rfl) T.len PySem.boot_len (pa_cons (pv 2) pa_nil)) pa_nil)) (pg_name (i := 6) sc_lw_numbers.nd rfl (Or.inl rfl))
      (pss_one (ps_if (PW.pt (pw_and (pt_cmpR op_ge (pv 3) (pe_op op_pow pe_int pe_int) (nomark _)) (pw_and1 (pt_cmpR op_gt (pv 4) pe_int (nomark _)))))
        (pss_cons (ps_expr (pe_bm PySem.F.plainAttrs_list PySem.F.slot_list_append PySem.F.type_list_append mt_append (pv 5) (pa_cons (pe_op op_mod (pe_int1 (by rfl) T.int (pv 4)) (pe_ix ix_list (pv 2) (pv 6) (fun _ _ => rfl))) pa_nil)))
          (pss_one (ps_set (i := 4) sc_lw_numbers.nd rfl (Or.inl rfl) (pe_op op_fdiv (pv 4) (pe_ix ix_list (pv 2) (pv 6) (fun _ _ => rfl))))))
        (pss_cons (ps_set (i := 7) sc_lw_numbers.nd rfl (Or.inl rfl) (pe_op op_pow (pe_op op_add (pe_op op_add (pe_op op_mod (pe_int1 (by rfl) T.int (pv 3)) pe_int) (pe_op op_mul pe_int (pv 1))) pe_int) pe_int))
          (pss_cons (ps_set (i := 7) sc_lw_numbers.nd rfl (Or.inl rfl) (pe_op op_mul (pe_op op_add (pe_op op_mod (pe_int1 (by rfl) T.int (pv 7)) pe_int) (pe_op op_mul pe_int (pe_op op_add (pv 6) pe_int))) (pe_op op_add (pv 6) pe_int)))
          (pss_cons (ps_set (i := 7) sc_lw_numbers.nd rfl (Or.inl rfl) (pe_op op_mod (pe_int1 (by rfl) T.int (pv 7)) pe_int))
          (pss_cons (ps_set (i := 7) sc_lw_numbers.nd rfl (Or.inl rfl) (pe_op op_mul (pe_op op_mod (pe_int1 (by rfl) T.int (pe_op op_pow (pv 7) pe_int)) pe_int) pe_int))
          (pss_cons (ps_set (i := 7) sc_lw_numbers.nd rfl (Or.inl rfl) (pe_op op_mod (pe_int1 (by rfl) T.int (pv 7)) pe_int))
          (pss_one (ps_expr (pe_bm PySem.F.plainAttrs_list PySem.F.slot_list_append PySem.F.type_list_append mt_append (pv 5) (pa_cons (pe_op op_mod (pe_int1 (by rfl) T.int (pe_op op_fdiv (pv 7) pe_int)) (pe_ix ix_list (pv 2) (pv 6) (fun _ _ => rfl))) pa_nil))))))))))))
      (pss_one (ps_ret (pv 5))))))), ?_⟩
    refine ⟨_, rfl, _, rfl, _, rfl, _, rfl, _, _, rfl, rfl, _, rfl, _, _, rfl, ?_⟩
    generalize (if (-1 - c : Int) > c then (-1 - c : Int) else c) = wh
    refine ⟨_, rfl, ?_⟩
    refine ⟨by decide, fun p hp => ?_⟩
    have e0 : Same H (upd H p (.lst [])) := fun b o e => by rw [upd_ne (ne_of_none e hp)]; exact e
    have hln : (ns.map V.int).length = ns.length := List.length_map ..
    have hl := hz.len
    refine ⟨_, rfl, a, _, rfl, .inl (e0.seq hS), _, rfl, by omega, by omega, for_range (lo := 0) (fun i σ H1 => ∃ (l : Int) (ms : List Int) (o k : Option V), σ = [some (.int c), some (.int sa), some (.ref a), some (.int wh), some (.int l), some (.ref p), k, o] ∧ Same H H1 ∧ H1 p = some (.lst (ms.map V.int)) ∧ Below ms (ns.take i))
      ⟨wh, [], none, none, rfl, e0, upd_same, Below.nil⟩ ?_ ?_⟩
    · rintro i σ H1 hi ⟨l, ms, o, k', rfl, e1, h1, hb⟩
      have hi' : i < ns.length := by omega
      obtain ⟨n, hn⟩ : ∃ n, ns[i]? = some n := ⟨ns[i], List.getElem?_eq_getElem hi'⟩
      have hnp := hz.pos n (List.mem_of_getElem? hn)
      have hat : atI (ns.map V.int) (0 + (i : Int)) = some (.int n) := by
        rw [Int.zero_add]
        exact atI_nat (by rw [List.getElem?_map, hn]; rfl)
      have hml : ms.length ≤ 10000 := by
        rw [hb.1, List.length_take]; omega
      have fin : ∀ (m l' : Int) (o' k2 : Option V), 0 ≤ m → m < n → ∃ (l : Int) (ms' : List Int) (o k : Option V), [some (V.int c), some (.int sa), some (.ref a), some (.int wh), some (.int l'), some (.ref p), k2, o'] = [some (.int c), some (.int sa), some (.ref a), some (.int wh), some (.int l), some (.ref p), k, o] ∧
          Same H (upd H1 p (.lst (ms.map V.int ++ [.int m]))) ∧ (upd H1 p (.lst (ms.map V.int ++ [.int m]))) p = some (.lst (ms'.map V.int)) ∧ Below ms' (ns.take (i + 1)) := by
        intro m l' o' k2 h0 h2
        refine ⟨l', ms ++ [m], o', k2, rfl, fun b o e => ?_, ?_, ?_⟩
        · rw [upd_ne (ne_of_none e hp)]
          exact e1 b o e
        · rw [upd_same, List.map_append]
          rfl
        · rw [take_snoc hn]
          exact hb.snoc h0 h2
      have hml' : (ms.map V.int).length < sizeLine := by rw [List.length_map]; exact small1000' (by omega)
      have hS1 := e1.seq hS
      have hm2 : ∀ z : Int, 0 ≤ z % n ∧ z % n < n := fun z => ⟨Int.emod_nonneg _ (by omega), Int.emod_lt_of_pos _ hnp.1⟩
      refine ⟨_, rfl, _, _, rfl, rfl, pow_ok (by decide) (by decide) (by decide), _, _, rfl, rfl, _, rfl, iteD (fun _ => ?_) (fun _ => ?_)⟩
      · refine ⟨_, rfl, _, _, rfl, rfl, _, rfl, iteD (fun _ => ?_) (fun _ => ?_)⟩
        · refine ⟨_, rfl, .inl ⟨rfl, _, SqL.of h1⟩, _, rfl, _, rfl, _, rfl, _, rfl, a, _, _, _, rfl, rfl, hS1, hat, _, _, rfl, rfl, hnp.1, p, _, _, rfl, rfl, h1, hml', ?_⟩
          have hS2 : SqL Z.K (upd H1 p (.lst (ms.map V.int ++ [.int (l % n)]))) a (ns.map V.int) := by
            obtain ⟨_, _, _, _, _, e2, _, _⟩ := fin (l % n) l o none (hm2 l).1 (hm2 l).2
            exact e2.seq hS
          refine ⟨_, rfl, _, rfl, _, rfl, a, _, _, _, rfl, rfl, hS2, hat, _, _, rfl, rfl, ⟨hnp.1, hnp.2⟩, ?_⟩
          exact fin _ _ _ _ (hm2 l).1 (hm2 l).2
        · refine ⟨_, rfl, _, rfl, _, _, rfl, rfl, (by show (0 : Int) < 2147483629; decide), _, rfl, _, _, rfl, rfl, .inl ⟨by decide, by decide⟩, _, _, rfl, rfl, _, _, rfl, rfl, _, _, rfl, rfl, pow_ok (by decide) (by decide) (by omega), ?_⟩
          refine ⟨_, rfl, _, rfl, _, _, rfl, rfl, (by show (0 : Int) < 2147483647; decide), _, rfl, _, _, rfl, rfl, _, _, rfl, rfl, .inl ⟨by decide, by decide⟩, _, _, rfl, rfl, _, rfl, _, _, rfl, rfl, _, _, rfl, rfl, .inr ⟨by omega, by omega⟩, ?_⟩
          refine ⟨_, rfl, _, rfl, _, _, rfl, rfl, (by show (0 : Int) < 2147483629; decide), ?_⟩
          refine ⟨_, rfl, _, _, rfl, rfl, pow_ok (by decide) (by decide) (by omega), _, rfl, _, _, rfl, rfl, (by show (0 : Int) < 2147483647; decide), _, _, rfl, rfl, .inr ⟨by decide, by decide⟩, ?_⟩
          refine ⟨_, rfl, _, rfl, _, _, rfl, rfl, (by show (0 : Int) < 2147483629; decide), ?_⟩
          refine ⟨_, rfl, .inl ⟨rfl, _, SqL.of h1⟩, _, rfl, _, _, rfl, rfl, ⟨by decide, by decide⟩, _, rfl, _, rfl, _, rfl, a, _, _, _, rfl, rfl, hS1, hat, _, _, rfl, rfl, hnp.1, p, _, _, rfl, rfl, h1, hml', ?_⟩
          exact fin _ _ _ _ (hm2 _).1 (hm2 _).2
      · refine ⟨_, rfl, _, rfl, _, _, rfl, rfl, (by show (0 : Int) < 2147483629; decide), _, rfl, _, _, rfl, rfl, .inl ⟨by decide, by decide⟩, _, _, rfl, rfl, _, _, rfl, rfl, _, _, rfl, rfl, pow_ok (by decide) (by decide) (by omega), ?_⟩
        refine ⟨_, rfl, _, rfl, _, _, rfl, rfl, (by show (0 : Int) < 2147483647; decide), _, rfl, _, _, rfl, rfl, _, _, rfl, rfl, .inl ⟨by decide, by decide⟩, _, _, rfl, rfl, _, rfl, _, _, rfl, rfl, _, _, rfl, rfl, .inr ⟨by omega, by omega⟩, ?_⟩
        refine ⟨_, rfl, _, rfl, _, _, rfl, rfl, (by show (0 : Int) < 2147483629; decide), ?_⟩
        refine ⟨_, rfl, _, _, rfl, rfl, pow_ok (by decide) (by decide) (by omega), _, rfl, _, _, rfl, rfl, (by show (0 : Int) < 2147483647; decide), _, _, rfl, rfl, .inr ⟨by decide, by decide⟩, ?_⟩
        refine ⟨_, rfl, _, rfl, _, _, rfl, rfl, (by show (0 : Int) < 2147483629; decide), ?_⟩
        refine ⟨_, rfl, .inl ⟨rfl, _, SqL.of h1⟩, _, rfl, _, _, rfl, rfl, ⟨by decide, by decide⟩, _, rfl, _, rfl, _, rfl, a, _, _, _, rfl, rfl, hS1, hat, _, _, rfl, rfl, hnp.1, p, _, _, rfl, rfl, h1, hml', ?_⟩
        exact fin _ _ _ _ (hm2 _).1 (hm2 _).2
    · rintro σ H1 ⟨l, ms, o, k', rfl, e1, h1, hb⟩
      refine ⟨_, rfl, k p H1 ms e1 hp h1 ?_⟩
      rw [hln, Int.toNat_natCast, List.take_length] at hb
      exact hb
/-- a pool at p: its numbers at q, the place of the next one -/
structure Pool (H : Hp) (p q : Addr) (ms : List Int) (i : Nat) : Prop where
  at_ : H p = some (.lst [.ref q, .int i])
  nums : H q = some (.lst (ms.map V.int))
  len : ms.length ≤ 10000
  few : i ≤ 100000
theorem Pool.ne {H : Hp} {p q : Addr} {ms : List Int} {i : Nat} (h : Pool H p q ms i) : p ≠ q := ne_of h.at_ h.nums (by
  intro z
  have z := HO.lst.inj z
  cases ms with
  | nil => cases z
  | cons m r =>
    rw [List.map_cons] at z
    cases (List.cons.inj z).1)
theorem rep420 (k : Nat) : (List.replicate k [V.int 420]).flatten = (List.replicate k (420 : Int)).map V.int := by
  induction k with
  | zero => rfl
  | succ k ih => rw [List.replicate_succ, List.flatten_cons, ih, List.replicate_succ]; rfl
def spPool : Sp := fun vs H Q _ => ∃ (c s n : Int), vs = [.int c, .int s, .int n] ∧ 0 ≤ s ∧ s ≤ 1000 ∧ 0 ≤ n ∧ n ≤ 10000 ∧
  ∀ p q H' ms, Same H H' → H p = none → H q = none → Pool H' p q ms 0 → Q (.ref p) H'
theorem ok_pool (F : Fun Z.K "_law_pool" "_law_pool" s_lw_pool f fd) (T : DrT Z) (c_lw_numbers : Cal Z CX0 1 "_law_numbers" ["_law_cell", "_law_salt", "_law_sizes"] [] (spNumbers Z.K)) : Z.ok CX0 2 f fd ["_law_cell", "_law_salt", "_law_many"] spPool := by
  refine F.ok sc_lw_pool (fun vs H Q E h => ?_) (fun cdv A outer s H vs Q E hr h => ?_)
  · obtain ⟨c, s, n, rfl, _⟩ := h
    rfl
  · obtain ⟨c, sa, n, rfl, hs0, hs1, hn0, hn1, k⟩ := h
    refine ⟨_, (pss_one (ps_ret (pe_lst (pa_cons (pe_cal c_lw_numbers (hr.mono (by decide)) (by rfl) pass0 (pa_cons (pv 0) (pa_cons (pv 1) (pa_cons (pe_op op_rep (pe_lst (pa_cons pe_int pa_nil)) (pv 2)) pa_nil)))) (pa_cons pe_int pa_nil))))), ?_⟩
    refine ⟨_, rfl, _, rfl, by decide, fun l hl => ?_⟩
    refine ⟨_, rfl, l, n, _, rfl, rfl, upd_same, by omega, by omega, ?_, fun l2 hl2 => ?_⟩
    · show 1 * n.toNat ≤ sizeLine
      rw [Nat.one_mul]
      exact Nat.le_of_lt (small1000' (by omega))
    have e1 : Same H (upd (upd H l (.lst [.int 420])) l2 (.lst (List.replicate n.toNat [V.int 420]).flatten)) := fun b o e => by
      have := e
      rw [upd_ne, upd_ne (ne_of_none e hl)]
      · exact e
      · intro z
        subst z
        rw [upd_ne (ne_of_none e hl), e] at hl2
        cases hl2
    refine ⟨c, sa, l2, List.replicate n.toNat 420, rfl, SqL.of (by rw [upd_same, rep420]), ⟨?_, ?_⟩, hs0, hs1, fun q H2 ms e2 hq h2 hb => ?_⟩
    · rw [List.length_replicate]; omega
    · intro x hx
      rw [(List.mem_replicate.mp hx).2]
      decide
    have e3 := e1.trans e2
    refine ⟨Nat.le_of_lt (small1000' (show 2 ≤ 100000 by decide)), fun p hp => ?_⟩
    have hqn : H q = none := e1.free hq
    have hne : q ≠ p := ne_of_none h2 hp
    refine k p q _ ms (fun b o e => ?_) (e3.free hp) hqn ⟨upd_same, by rw [upd_ne hne]; exact h2, ?_, by decide⟩
    · rw [upd_ne (ne_of_none (e3 b o e) hp)]
      exact e3 b o e
    · rw [hb.1, List.length_replicate]; omega
/-- a draw -/
def spDraw : Sp := fun vs H Q _ => ∃ (p q : Addr) (ms : List Int) (i : Nat) (n : Int), vs = [.ref p, .int n] ∧ Pool H p q ms i ∧ 0 < n ∧ i < 100000 ∧
  ∀ r H', 0 ≤ r → r < n → (∀ b, b ≠ p → H' b = H b) → Pool H' p q ms (i + 1) → Q (.int r) H'
theorem ok_draw (F : Fun Z.K "_law_draw" "_law_draw" s_lw_draw f fd) (T : DrT Z) : Z.ok CX0 1 f fd ["_law_pool_here", "_law_many"] spDraw := by
  refine F.ok sc_lw_draw (fun vs H Q E h => ?_) (fun cdv A outer s H vs Q E hr h => ?_)
  · obtain ⟨p, q, ms, i, n, rfl, _⟩ := h
    rfl
  · obtain ⟨p, q, ms, i, n, rfl, hP, hn, hi, k⟩ := h
    refine ⟨_, (pss_cons (ps_set (i := 2) sc_lw_draw.nd rfl (Or.inl rfl) (pe_ix ix_list (pv 0) pe_int (fun _ _ => rfl)))
      (pss_cons (ps_asg (pe_op op_add (pv 2) pe_int) (pg_sub (pv 0) pe_int set_list))
      (pss_one (ps_ret (pe_ifExp (pt_cmpR op_lt (pv 2) (pe_callB call_len_seq (by rfl) T.len PySem.boot_len (pa_cons (pe_ix ix_list (pv 0) pe_int (fun _ _ => rfl)) pa_nil)) (nomark _)) (pe_op op_mod (pe_int1 (by rfl) T.int (pe_ix ix_list (pe_ix ix_list (pv 0) pe_int (fun _ _ => rfl)) (pv 2) (fun _ _ => rfl))) (pv 1)) pe_int))))), ?_⟩
    refine ⟨_, rfl, p, _, _, _, rfl, rfl, SqL.of hP.at_, rfl, ?_⟩
    refine ⟨_, rfl, _, _, rfl, rfl, _, rfl, p, _, _, 1, rfl, rfl, hP.at_, rfl, ?_⟩
    have hP2 : Pool (upd H p (.lst [.ref q, .int ((i : Int) + 1)])) p q ms (i + 1) := ⟨by rw [upd_same, show ((i + 1 : Nat) : Int) = (i : Int) + 1 by omega], by rw [upd_ne hP.ne.symm]; exact hP.nums, hP.len, hi⟩
    have hsame : ∀ b, b ≠ p → (upd H p (.lst [.ref q, .int ((i : Int) + 1)])) b = H b := fun b hb => upd_ne hb
    refine ⟨_, rfl, _, rfl, p, _, _, _, rfl, rfl, SqL.of upd_same, rfl, q, _, rfl, .inl (SqL.of hP2.nums), _, _, rfl, rfl, _, rfl, iteD (fun hlt => ?_) (fun hge => ?_)⟩
    · rw [List.length_map] at hlt
      have hlt' : i < ms.length := by omega
      refine ⟨_, rfl, p, _, _, _, rfl, rfl, SqL.of upd_same, rfl, _, rfl, q, _, _, V.int ms[i], rfl, rfl, SqL.of hP2.nums, ?_, _, rfl, _, rfl, _, _, rfl, rfl, hn, ?_⟩
      · exact atI_nat (by rw [List.getElem?_map, List.getElem?_eq_getElem hlt']; rfl)
      · exact k _ _ (Int.emod_nonneg _ (by omega)) (Int.emod_lt_of_pos _ hn) hsame hP2
    · exact k 0 _ (Int.le_refl 0) hn hsame hP2
/-- the pool of the script's k-th cell -/
def spOpened (K : Frag) : Sp := fun vs H Q _ => ∃ (a : Addr) (ns : List Int) (i : Nat) (n : Int), vs = [.ref a, .int i, .int n] ∧ SqL K H a (ns.map V.int) ∧ (i < ns.length ∨ (ns = [] ∧ i = 0)) ∧ i ≤ 1000 ∧ 0 ≤ n ∧ n ≤ 10000 ∧
  ∀ p q H' ms, Same H H' → H p = none → H q = none → Pool H' p q ms 0 → Q (.ref p) H'
theorem DpAll.ints {K : Frag} {H : Hp} : ∀ ns : List Int, DpAll K H (ns.map V.int) (ns.map PyData.int)
  | [] => .nil
  | n :: r => .cons (.int n) (DpAll.ints r)
theorem shaped_ints (ns : List Int) : SeqAt.shaped (.list (ns.map PyData.int)) = true := ke_shaped_ints ns
theorem ok_opened (F : Fun Z.K "_law_opened" "_law_opened" s_lw_opened f fd) (T : DrT Z) (c_lw_pool : Cal Z CX0 2 "_law_pool" ["_law_cell", "_law_salt", "_law_many"] [] spPool) : Z.ok CX0 3 f fd ["_law_script", "_law_k", "_law_many"] (spOpened Z.K) := by
  refine F.ok sc_lw_opened (fun vs H Q E h => ?_) (fun cdv A outer s H vs Q E hr h => ?_)
  · obtain ⟨a, ns, i, n, rfl, _⟩ := h
    rfl
  · obtain ⟨a, ns, i, n, rfl, hS, hi, hi2, hn0, hn1, k⟩ := h
    refine ⟨_, (pss_cons (ps_set (i := 3) sc_lw_opened.nd rfl (Or.inl rfl) (pe_ifExp (pt_cmpR (op_neD hr.units) (pv 0) (pe_lst pa_nil) (nomark _)) (pe_ix ix_list (pv 0) (pv 1) (fun _ _ => rfl)) pe_int))
      (pss_one (ps_ret (pe_cal c_lw_pool (hr.mono (by decide)) (by rfl) pass0 (pa_cons (pv 3) (pa_cons (pv 1) (pa_cons (pv 2) pa_nil))))))), ?_⟩
    refine ⟨_, rfl, by decide, fun l hl => ?_⟩
    have e1 : Same H (upd H l (.lst [])) := fun b o e => by rw [upd_ne (ne_of_none e hl)]; exact e
    refine ⟨_, _, .lst (e1.seq hS) (DpAll.ints ns), .lst (SqL.of upd_same) .nil, shaped_ints ns, rfl, _, rfl, ?_⟩
    have fin : ∀ c : Int, spPool [.int c, .int i, .int n] (upd H l (.lst [])) Q E0 := fun c =>
      ⟨c, i, n, rfl, by omega, by omega, hn0, hn1, fun p q H' ms e hp hq P => k p q H' ms (e1.trans e) (e1.free hp) (e1.free hq) P⟩
    cases ns with
    | nil =>
      refine iteF ?_
      exact ⟨_, rfl, _, rfl, _, rfl, fin 7⟩
    | cons x r =>
      refine iteT ?_
      have hlt : i < (x :: r).length := by
        rcases hi with h | h
        · exact h
        · cases h.1
      refine ⟨_, rfl, _, rfl, a, _, _, V.int (x :: r)[i], rfl, rfl, e1.seq hS, atI_nat (by rw [List.getElem?_map, List.getElem?_eq_getElem hlt]; rfl), _, rfl, _, rfl, _, rfl, fin _⟩
end
end Ps

/-! Own comparisons: an own instance on the left, anything on the right; an int on the left, an own instance on the right; != by ==; x op= y without an own in-place method. -/
namespace Ps
open PySem PySem.Spec PyProof.Rows PySem.W L2

section
variable {prog : Program} {w : World} {A : Around} {E : Value → Shared → Prop} {s : Shared} {K : Frag} {x C L f : Addr} {h₀ : Heap} {m : Str → Option Value} {ox : Obj} {od : Option Obj} {b tb : Value}

theorem ifBound_objNe {M : Model} {args : List Value} {Q : Option Value → Shared → Prop} (X : K.In s.heap) (I : InstAt s.heap x ox C od) (hs : findIn K (.ref C) "__ne__" = some (some (.builtin "object.__ne__")))
    (h : wpAny M A (call (.builtin "object.__ne__") (.ref x :: args)) (fun v => Q (some v)) E s) : wpAny M A (callSpecialIfBound? (.ref x) "__ne__" args) Q E s := by
  simp only [callSpecialIfBound?, bindSpecialIfBound?]
  refine wpAny_holding (wpAny_bind (wpAny_bind (wpAny_bind (I.type.here ((looks_findIn X hs).here ?_)))))
  refine wpAny_bind (wpAny_askSetting (wpAny_ite ?_))
  have fin : wpAny M A (call (.builtin "object.__ne__") ([.ref x] ++ args) >>= fun v => pure (some v)) Q E s := wpAny_bind (wpAny_mono h (fun v s' h' => wpAny_pure h') fun _ _ h' => h')
  split
  · exact wpAny_bind (wpAny_of_eq (F.cmp_object.ne.bind _) (wpAny_pure (by exact fin)))
  · exact wpAny_tryCatch (wpAny_bind (wpAny_of_eq (F.cmp_object.ne.bind _) (wpAny_pure (by exact fin))))
theorem objNe_entry {Q : Fin → Shared → Prop} (hu : A.units < cLine) (X : K.In s.heap) (I : InstAt s.heap x ox C od) (hs : findIn K (.ref C) "__eq__" = some (some (.ref f))) (hf : isFn K (.ref f) = true)
    (h : wpAny (model prog w) A (call (.ref f) [.ref x, b]) (fun v s' => ∃ r, v = .bool r ∧ Q (.done (.ret (.bool (!r)))) s') E s) : wpAny (model prog w) A (Builtin.«object.__ne__» ⟨[.ref x, b], []⟩) Q E s := by
  unfold Builtin.«object.__ne__»
  refine wpAny_bind (m := slotArgs "__ne__" 1 _) (wpAny_pure ?_)
  show wpAny _ _ (cRoomFor "comparison" [.ref x, b] >>= _) _ _ _
  refine wpAny_bind (wpAny_cRoomFor hu ?_)
  refine wpAny_bind (m := callSpecialIfBound? (.ref x) (Str.ofString "__eq__") [b]) (ifBound_K X I hs hf (wpAny_mono h (fun v s' hv => ?_) fun _ _ y => y))
  obtain ⟨r, rfl, hq⟩ := hv
  show wpAny _ _ (truthy (.bool r) >>= _) _ _ _
  exact wpAny_bind (wpAny_truthy_bool (wpAny_pure hq))
theorem tryNe {Q : Option Value → Shared → Prop} (hu : A.units + 1 < cLine) (X : K.In s.heap) (I : InstAt s.heap x ox C od) (hne : findIn K (.ref C) "__ne__" = some (some (.builtin "object.__ne__"))) (hm : mroIn K C (.type "object") = some true)
    (hs : findIn K (.ref C) "__eq__" = some (some (.ref f))) (hf : isFn K (.ref f) = true)
    (h : wpAny (model prog w) A.in1 (call (.ref f) [.ref x, b]) (fun v s' => ∃ r, v = .bool r ∧ Q (some (.bool (!r))) s') E s) : wpAny (model prog w) A (tryCompare (.ref x) "__ne__" b) Q E s := by
  unfold tryCompare
  refine wpAny_bind (ifBound_objNe X I hne ?_)
  refine wpAny_call (codeAny_call_builtin F.cmp_object.ne.plain F.cmpEntry_ne (check_slot F.cmpKind_ne F.cmpSplit_ne (I.type.andThen (looks_mroIn X hm)) (F.cmpArgs_ne _ _) ?_))
  refine objNe_entry (A := A.in1) hu X I hs hf (wpAny_mono h (fun v s' hv => ?_) fun _ _ e => e)
  obtain ⟨r, rfl, hq⟩ := hv
  exact ⟨r, rfl, wpAny_pure hq⟩
/-- x != b by the own == -/
theorem cmp_ne {Q : Value → Shared → Prop} (hu : A.units + 1 < cLine) (X : K.In s.heap) (I : InstAt s.heap x ox C od) (hb : Looks (model prog w) s.heap (typeOf b) tb) (hn : notFirst K C tb = true)
    (hne : findIn K (.ref C) "__ne__" = some (some (.builtin "object.__ne__"))) (hm : mroIn K C (.type "object") = some true) (hs : findIn K (.ref C) "__eq__" = some (some (.ref f))) (hf : isFn K (.ref f) = true)
    (h : wpAny (model prog w) A.in1 (call (.ref f) [.ref x, b]) (fun v s' => ∃ r, v = .bool r ∧ Q (.bool (!r)) s') E s) : wpAny (model prog w) A (richCompare .NotEq (.ref x) b) Q E s := by
  have one : wpAny (model prog w) A (tryCompare (.ref x) "__ne__" b) (fun r s' => ∃ v, r = some v ∧ Q v s') E s :=
    tryNe hu X I hne hm hs hf (wpAny_mono h (fun v s' hv => by obtain ⟨r, rfl, hq⟩ := hv; exact ⟨r, rfl, _, rfl, hq⟩) fun _ _ e => e)
  unfold richCompare
  simp only [oneThing_ref]
  rw [cmpInfo_NotEq]
  dsimp only
  refine wpAny_holding (wpAny_bind (wpAny_cRoomFor (Nat.lt_of_succ_lt hu) ?_))
  refine wpAny_bind (I.type.here (wpAny_bind (hb.here ?_)))
  split
  · rename_i q
    have e : subIn K tb (.ref C) = some false := by
      rcases Bool.or_eq_true_iff.mp hn with e | e
      · rw [beq_iff_eq.mp e] at q; simp at q
      · exact beq_iff_eq.mp e
    refine wpAny_bind ((looks_subIn X e).here ?_)
    simp only [Bool.false_eq_true, if_false]
    refine wpAny_bind (wpAny_mono one (fun r s' z => ?_) fun _ _ e => e)
    obtain ⟨v, rfl, hq⟩ := z
    exact wpAny_pure hq
  · refine wpAny_bind (wpAny_pure ?_)
    simp only [Bool.false_eq_true, if_false]
    refine wpAny_bind (wpAny_mono one (fun r s' z => ?_) fun _ _ e => e)
    obtain ⟨v, rfl, hq⟩ := z
    exact wpAny_pure hq
/-- an int on the left: it declines, the reflected method of the right is called -/
theorem cmp_R {op : CmpOp} {t : Tok} {i : Int} {Q : Value → Shared → Prop} (hu : A.units < cLine) (X : K.In s.heap) (I : InstAt s.heap x ox C od) (hsub : subIn K (.ref C) (.type "int") = some false)
    (hone : oneThing? op (.int i t) (.ref x) = none)
    (dec : wpAny (model prog w) A (tryCompare (.int i t) (cmpInfo op).2.1 (.ref x)) (fun r s' => r = none ∧ s' = s) E s)
    (h : wpAny (model prog w) A (tryCompare (.ref x) (cmpInfo op).2.2 (.int i t)) (fun r s' => ∃ v, r = some v ∧ Q v s') E s) : wpAny (model prog w) A (richCompare op (.int i t) (.ref x)) Q E s := by
  unfold richCompare
  rw [hone]
  dsimp only
  refine wpAny_holding (wpAny_bind (wpAny_cRoomFor hu ?_))
  have L1 : Looks (model prog w) s.heap (typeOf (.int i t)) (.type "int") := Looks.of_pure rfl
  refine wpAny_bind (L1.here (wpAny_bind (I.type.here ?_)))
  split
  · refine wpAny_bind ((looks_subIn X hsub).here ?_)
    simp only [Bool.false_eq_true, if_false]
    refine wpAny_bind (wpAny_mono dec (fun r s' z => ?_) fun _ _ e => e)
    obtain ⟨rfl, rfl⟩ := z
    simp only [Bool.not_false, if_true]
    refine wpAny_bind (wpAny_mono h (fun r s' z => ?_) fun _ _ e => e)
    obtain ⟨v, rfl, hq⟩ := z
    exact wpAny_pure hq
  · rename_i q
    exact absurd (by simp) q
end
end Ps

/-! The same over the layer: values of any known type on the right. -/
namespace Ps
open PySem PySem.Spec PyProof.Rows PySem.W L2

section
variable {prog : Program} {w : World} {A : Around} {E : Value → Shared → Prop} {s : Shared} {K : Frag} {x C f : Addr} {ox : Obj} {od : Option Obj} {b : Value} {nm T : String}
/-- a built-in class, as a number's operator looks at it -/
structure Bt (T nm : String) : Prop where
  l : ∃ o, fastLookup T (PySem.dunder nm) = some o
  r : ∃ o, fastLookup T (dunderR nm) = some o
  no : (fastBuiltinMro T).map (fun l => l.all fun v => match v with | .type _ => true | _ => false) = some true
theorem noRef {T : String} {C : Addr} (h : (fastBuiltinMro T).map (fun l => l.all fun v => match v with | .type _ => true | _ => false) = some true) : subIn K (.type T) (.ref C) = some false := by
  show (fastBuiltinMro T).map (·.contains (.ref C)) = some false
  cases e : fastBuiltinMro T with
  | none => rw [e] at h; cases h
  | some l =>
    rw [e] at h
    have h2 : (l.all fun v => match v with | .type _ => true | _ => false) = true := Option.some.inj h
    show some (l.contains (.ref C)) = some false
    congr 1
    rw [Bool.eq_false_iff]
    intro z
    have z2 := List.all_eq_true.mp h2 _ (List.contains_iff_mem.mp z)
    cases z2
theorem bin1_T {Q : Value → Shared → Prop} (X : K.In s.heap) (I : InstAt s.heap x ox C od) (hb : Looks (model prog w) s.heap (typeOf b) (.type T)) (hc : selfFirst K C = true)
    (hs : findIn K (.ref C) (PySem.dunder nm) = some (some (.ref f))) (hf : isFn K (.ref f) = true) {rc : Option Value} (hr : findIn K (.ref C) (dunderR nm) = some rc) (hp : rc = none ∨ ∃ g : Addr, rc = some (.ref g)) (B : Bt T nm)
    (h : wpAny (model prog w) A (call (.ref f) [.ref x, b]) (PySem.W.CmpBack Q) E s) : wpAny (model prog w) A (binaryOp1 nm (.ref x) b) (fun r s' => ∃ v, r = some v ∧ Q v s') E s := by
  obtain ⟨cd, rest, hcd, hm⟩ := ksp_first hc
  have one := ksp_try X I hs hf h
  obtain ⟨⟨fo, h1⟩, ⟨ro, h2⟩, hno⟩ := B
  obtain ⟨hh, g, d, tt, os⟩ := s
  have L1 : Looks (model prog w) hh (typeOf (.ref x)) (.ref C) := I.type
  have L3 : Looks (model prog w) hh (fillsNumberSlot (.ref C) nm) true := fills_K X hcd hm hs
  have L4 : Looks (model prog w) hh (fillsNumberSlot (.type T) nm) ((fo.isSome && !isSeqSlot fo) || (ro.isSome && !isSeqSlot ro)) := ksp_fillsT X h1 h2
  have L5 : Looks (model prog w) hh (isSubtype (.type T) (.ref C)) false := looks_subIn X (noRef hno)
  have L6 : Looks (model prog w) hh (numberSlotInPython (.ref C) nm) true := ksp_inPy X hs hr hp
  have L7 : Looks (model prog w) hh (numberSlotInPython (.type T) nm) false := Looks.of_pure rfl
  have L8 : Looks (model prog w) hh (typeLookup (.type T) (dunderR nm)) ro := looks_findIn X h2
  generalize ((fo.isSome && !isSeqSlot fo) || (ro.isSome && !isSeqSlot ro)) = right at L4
  have hne : (Value.ref C == Value.type T) = false := Bool.eq_false_iff.mpr fun q => by cases beq_iff_eq.mp q
  unfold binaryOp1
  refine wpAny_bind (L1.at (wpAny_bind (hb.at (wpAny_bind (L3.at ?_)))))
  simp only [hne, Bool.false_eq_true, if_false]
  cases right
  · ksp_lk
    refine wpAny_mono one (fun r s' hr' => ?_) fun _ _ e => e
    obtain ⟨v, rfl, hq⟩ := hr'
    ksp_lk
    exact ⟨_, rfl, hq⟩
  · ksp_lk
    refine wpAny_mono one (fun r s' hr' => ?_) fun _ _ e => e
    obtain ⟨v, rfl, hq⟩ := hr'
    ksp_lk
    exact ⟨_, rfl, hq⟩
theorem bin1_K {Q : Value → Shared → Prop} (X : K.In s.heap) (I : InstAt s.heap x ox C od) (hb : Looks (model prog w) s.heap (typeOf b) (.ref C)) (hc : selfFirst K C = true)
    (hs : findIn K (.ref C) (PySem.dunder nm) = some (some (.ref f))) (hf : isFn K (.ref f) = true)
    (h : wpAny (model prog w) A (call (.ref f) [.ref x, b]) (PySem.W.CmpBack Q) E s) : wpAny (model prog w) A (binaryOp1 nm (.ref x) b) (fun r s' => ∃ v, r = some v ∧ Q v s') E s := by
  obtain ⟨cd, rest, hcd, hm⟩ := ksp_first hc
  have one := ksp_try X I hs hf h
  unfold binaryOp1
  refine wpAny_bind (I.type.here (wpAny_bind (hb.here (wpAny_bind ((fills_K X hcd hm hs).here ?_)))))
  simp only [beq_self_eq_true, if_true]
  refine wpAny_bind (wpAny_pure ?_)
  simp only [Bool.and_false, Bool.false_eq_true, if_false, Bool.false_and]
  refine wpAny_bind (wpAny_pure ?_)
  simp only [Bool.false_eq_true, if_false]
  refine wpAny_bind (m := tryMethod (.ref x) _ b) (wpAny_mono one (fun r s' hr' => ?_) fun _ _ e => e)
  obtain ⟨v, rfl, hq⟩ := hr'
  exact wpAny_pure ⟨_, rfl, hq⟩
theorem bin_of1 {op : Operator} {a : Value} {Q : Value → Shared → Prop} (h : wpAny (model prog w) A (binaryOp1 op.info.2 a b) (fun r s' => ∃ v, r = some v ∧ Q v s') E s) : wpAny (model prog w) A (binaryOp op a b) Q E s := by
  rcases hi : op.info with ⟨sym, nm'⟩
  rw [hi] at h
  simp only [binaryOp, hi]
  refine wpAny_holding (wpAny_bind (wpAny_mono h (fun r s' z => ?_) fun _ _ e => e))
  obtain ⟨v, rfl, hq⟩ := z
  exact wpAny_pure hq
/-- no in-place method along the class and object -/
structure NoI (K : Frag) (C : Addr) (nm : String) : Prop where
  cd : ∃ cd, clsIn K C = some cd ∧ cd.mro = [.ref C, .type "object"]
  l : findIn K (.ref C) (dunderI nm) = some none
  o : fastLookup "object" (dunderI nm) = some none
theorem fillsI_no {M : Model} {h : Heap} {add : Bool} (X : K.In h) (N : NoI K C nm) : Looks M h (fillsInplaceSlot (.ref C) nm add) false := by
  obtain ⟨⟨cd, hc, hm⟩, hl, ho⟩ := N
  intro A Q E s k q
  have Lm : Looks M h (mroOf (.ref C)) cd.mro := (looks_clsIn X hc).andThen (f := fun cd => pure cd.mro) .now
  have Lm' := Lm.keeps k
  obtain ⟨hh, g, d, tt, os⟩ := s
  have X' : K.In hh := X.keeps k
  have L1 : Looks M hh (typeLookup (.ref C) (dunderI nm)) none := looks_findIn X' hl
  have L2 : Looks M hh (typeLookup (.type "object") (dunderI nm)) none := looks_findIn X' (t := .type "object") ho
  unfold fillsInplaceSlot
  refine wpAny_bind (Lm'.at ?_)
  rw [hm, List.anyM_cons]
  refine wpAny_bind ?_
  repeat lk
  first
    | exact q
    | (rw [List.anyM_cons]; refine wpAny_bind ?_; repeat lk; first | exact q | (rw [List.anyM_nil]; exact wpAny_pure q))
theorem ip_of1 {op : Operator} {Q : Value → Shared → Prop} (X : K.In s.heap) (I : InstAt s.heap x ox C od) (N : NoI K C op.info.2) (h : wpAny (model prog w) A (binaryOp1 op.info.2 (.ref x) b) (fun r s' => ∃ v, r = some v ∧ Q v s') E s) : wpAny (model prog w) A (inplaceOp op (.ref x) b) Q E s := by
  unfold inplaceOp
  refine wpAny_holding ?_
  refine wpAny_bind (I.type.here (wpAny_bind ((fillsI_no X N).here ?_)))
  simp only [Bool.false_eq_true, if_false]
  refine wpAny_bind (wpAny_mono h (fun r s' z => ?_) fun _ _ e => e)
  obtain ⟨v, rfl, hq⟩ := z
  exact wpAny_pure hq
end
end Ps

/-! Rules: operators and comparisons of own instances with values of any known type. -/
namespace Ps
open PySem PySem.Spec PyProof.Rows PySem.W L2

section
variable {Z : Cz} {X : Cx} {CX : CXT} {k : Nat} {C : Addr} {ps : List Str} {sp : Sp} {E : XK}
/-- a value that stands right of an operator -/
def Sd (K : Frag) (C : Addr) (nm : String) (H : Hp) (y : V) : Prop := ∃ t, TyX K H y t ∧ (t = .ref C ∨ ∃ T, t = .type T ∧ Bt T nm)
def rBin (K : Frag) (C : Addr) (nm : String) (sp : Sp) (E : XK) : R2 := fun x y H Q => InsC C H x ∧ Sd K C nm H y ∧ sp [x, y] H Q E
theorem bin1_any {nm : String} {f : Addr} {fd : FuncData} {rc : Option Value} {pins : List (Addr × Obj)} {s : Shared} {σ : L2.St} {H : Hp} {x y : V} {v u : Value} {Q : VK} (O : OwnOp X.K C f (PySem.dunder nm)) (hrc : findIn X.K (.ref C) (dunderR nm) = some rc) (hp : rc = none ∨ ∃ g : Addr, rc = some (.ref g))
    (G : FnOk X.prog X.w X.K X.mg X.base CX k f fd ps sp) (hr : Room k X.A) (hb : Binds X.K fd ps []) (hx : Passes CX X E) (I : L2.Inv X pins σ H s) (rx : RelV x v) (ry : RelV y u) (h : rBin X.K C nm sp E x y H Q) :
    ∃ a ox od, v = .ref a ∧ InstAt s.heap a ox C od ∧ wpAny (model X.prog X.w) X.A (binaryOp1 nm v u) (fun r s' => ∃ z, r = some z ∧ EP X pins σ Q z s') X.xe s := by
  obtain ⟨⟨a, dx, fs, rfl, ha⟩, ⟨t, ty, ht⟩, h⟩ := h
  cases (show v = Value.ref a from rx)
  obtain ⟨mA, J0, _⟩ := ins_get I.hok ha
  obtain ⟨od, J, _⟩ := J0.look
  obtain ⟨P, Zk, p, _⟩ := kit_of I ry ty
  have hl := Zk.ty (model X.prog X.w) s.heap I.kIn p
  have hcall := wpAny_mono (run_fn (us := [.ref a, u]) (vs := [.ref a, y]) (dvs := []) G hr hb .nil hx I (.cons rfl (.cons ry .nil)) h) (fun _ _ z => cmpBack z) fun _ _ z => z
  rcases ht with rfl | ⟨T, rfl, B⟩
  · exact ⟨a, _, _, rfl, J, bin1_K I.kIn J hl O.sf O.fn O.isf hcall⟩
  · exact ⟨a, _, _, rfl, J, bin1_T I.kIn J hl O.sf O.fn O.isf hrc hp B hcall⟩
/-- what is known of the reflected method of a class -/
structure Rfl (K : Frag) (C : Addr) (nm : String) : Prop where
  r : ∃ rc, findIn K (.ref C) (dunderR nm) = some rc ∧ (rc = none ∨ ∃ g : Addr, rc = some (.ref g))
theorem op_bin {op : Operator} (c : CalS Z CX k C (PySem.dunder op.info.2) ps sp) (N : Rfl Z.K C op.info.2) (hr : Room k X.A) (hx : Passes CX X E) (z : InZ Z X := by exact ⟨rfl, rfl, rfl, rfl, rfl⟩) : OpR X (binaryOp op) (rBin Z.K C op.info.2 sp E) := by
  obtain ⟨f, fd, G, h1, h2⟩ := c
  obtain ⟨rc, hrc, hp⟩ := N.r
  have z' := z
  obtain ⟨e1, e2, e3, e4, e5⟩ := z
  intro pins s σ H x y v u Q I rx ry h
  obtain ⟨a, ox, od, rfl, J, w1⟩ := bin1_any (X := X) (by rw [e3]; exact h1) (by rw [e3]; exact hrc) hp (z'.ok G) hr (by rw [e3]; exact h2) hx I rx ry (by rw [e3]; exact h)
  exact bin_of1 w1
theorem ip_bin {op : Operator} (c : CalS Z CX k C (PySem.dunder op.info.2) ps sp) (N : Rfl Z.K C op.info.2) (O : NoI Z.K C op.info.2) (hr : Room k X.A) (hx : Passes CX X E) (z : InZ Z X := by exact ⟨rfl, rfl, rfl, rfl, rfl⟩) : PIp X op (rBin Z.K C op.info.2 sp E) := by
  obtain ⟨f, fd, G, h1, h2⟩ := c
  obtain ⟨rc, hrc, hp⟩ := N.r
  have z' := z
  obtain ⟨e1, e2, e3, e4, e5⟩ := z
  intro pins s σ H x y v u Q I rx ry h
  obtain ⟨a, ox, od, rfl, J, w1⟩ := bin1_any (X := X) (by rw [e3]; exact h1) (by rw [e3]; exact hrc) hp (z'.ok G) hr (by rw [e3]; exact h2) hx I rx ry (by rw [e3]; exact h)
  exact ip_of1 I.kIn J (by rw [e3]; exact O) w1
/-! ### comparisons -/
def Nf (K : Frag) (C : Addr) (H : Hp) (y : V) : Prop := ∃ t, TyX K H y t ∧ notFirst K C t = true
def rCmp (K : Frag) (C : Addr) (sp : Sp) (E : XK) : R2 := fun x y H Q => InsC C H x ∧ Nf K C H y ∧ sp [x, y] H Q E
theorem op_cmp {op : CmpOp} (c : CalS Z CX k C (cmpInfo op).2.1 ps sp) (hr : Room k X.A) (hx : Passes CX X E) (z : InZ Z X := by exact ⟨rfl, rfl, rfl, rfl, rfl⟩) (hop : ∀ a b, compareOp op a b = richCompare op a b := by intro _ _; rfl) : OpR X (compareOp op) (rCmp Z.K C sp E) := by
  obtain ⟨f, fd, G, h1, h2⟩ := c
  have z' := z
  obtain ⟨e1, e2, e3, e4, e5⟩ := z
  intro pins s σ H x y v u Q I rx ry h
  obtain ⟨⟨a, dx, fs, rfl, ha⟩, ⟨t, ty, ht⟩, h⟩ := h
  cases (show v = Value.ref a from rx)
  rw [← e3] at ty ht h1
  obtain ⟨mA, J0, _⟩ := ins_get I.hok ha
  obtain ⟨od, J, _⟩ := J0.look
  obtain ⟨P, Zk, p, _⟩ := kit_of I ry ty
  obtain ⟨m, hF⟩ := I.fr
  rw [hop]
  refine cmp_K hr.units0 hF I.ok.mod.kin J (Zk.ty (model X.prog X.w) s.heap I.kIn p) ht h1.fn h1.isf ?_
  exact wpAny_mono (run_fn (us := [.ref a, u]) (vs := [.ref a, y]) (dvs := []) (z'.ok G) hr (by rw [e3]; exact h2) .nil hx I (.cons rfl (.cons ry .nil)) h) (fun _ _ z => cmpBack z) fun _ _ z => z
/-- what is known of != -/
structure NeT (K : Frag) (C : Addr) : Prop where
  ne : findIn K (.ref C) "__ne__" = some (some (.builtin "object.__ne__"))
  m : mroIn K C (.type "object") = some true
def rNe (K : Frag) (C : Addr) (sp : Sp) (E : XK) : R2 := fun x y H Q => InsC C H x ∧ Nf K C H y ∧ sp [x, y] H (fun v H' => ∃ b, v = .bl b ∧ Q (.bl (!b)) H') E
theorem ne_back {pins : List (Addr × Obj)} {σ : L2.St} {Q : VK} {v : Value} {s : Shared} (h : EP X pins σ (fun v H' => ∃ b, v = .bl b ∧ Q (.bl (!b)) H') v s) : ∃ r, v = .bool r ∧ EP X pins σ Q (.bool (!r)) s := by
  obtain ⟨v', H', I, r, b, rfl, q⟩ := h
  cases (show v = Value.bool b from r)
  exact ⟨b, rfl, .bl (!b), H', I, rfl, q⟩
theorem op_ne_ (c : CalS Z CX k C "__eq__" ps sp) (N : NeT Z.K C) (hr : Room (k + 1) X.A) (hx : Passes CX X E) (z : InZ Z X := by exact ⟨rfl, rfl, rfl, rfl, rfl⟩) : OpR X (compareOp .NotEq) (rNe Z.K C sp E) := by
  obtain ⟨f, fd, G, h1, h2⟩ := c
  have z' := z
  obtain ⟨e1, e2, e3, e4, e5⟩ := z
  intro pins s σ H x y v u Q I rx ry h
  obtain ⟨⟨a, dx, fs, rfl, ha⟩, ⟨t, ty, ht⟩, h⟩ := h
  cases (show v = Value.ref a from rx)
  rw [← e3] at ty ht h1 N
  obtain ⟨mA, J0, _⟩ := ins_get I.hok ha
  obtain ⟨od, J, _⟩ := J0.look
  obtain ⟨P, Zk, p, _⟩ := kit_of I ry ty
  show wpAny _ _ (richCompare .NotEq (.ref a) u) _ _ _
  refine cmp_ne (hu_of hr) I.kIn J (Zk.ty (model X.prog X.w) s.heap I.kIn p) ht N.ne N.m h1.fn h1.isf ?_
  exact wpAny_mono (run_fn1 (us := [.ref a, u]) (vs := [.ref a, y]) (z'.ok G) hr (by rw [e3]; exact h2) hx I (.cons rfl (.cons ry .nil)) h) (fun _ _ z => ne_back z) fun _ _ z => z
/-! an int on the left -/
def rCmpI (C : Addr) (sp : Sp) (E : XK) : R2 := fun x y H Q => (∃ i, x = .int i) ∧ InsC C H y ∧ sp [y, x] H Q E
theorem one_int {op : CmpOp} {i : Int} {t : Tok} {x : Addr} : oneThing? op (.int i t) (.ref x) = none := by cases op <;> rfl
theorem op_cmpI {op : CmpOp} {id : String} (c : CalS Z CX k C (cmpInfo op).2.2 ps sp) (hsub : subIn Z.K (.ref C) (.type "int") = some false) (sl : Slot "int" (cmpInfo op).2.1 id)
    (hd : ∀ {s : Shared} {x C dx : Addr} {t : Tok} {i : Int} {Q : Value → Shared → Prop}, s.heap.get? x = some (instObj C dx) → Q .notImplemented s → wpAny (model X.prog X.w) X.A (call (.builtin id) [.int i t, .ref x]) Q X.xe s)
    (hr : Room k X.A) (hx : Passes CX X E) (z : InZ Z X := by exact ⟨rfl, rfl, rfl, rfl, rfl⟩) (hop : ∀ a b, compareOp op a b = richCompare op a b := by intro _ _; rfl) : OpR X (compareOp op) (rCmpI C sp E) := by
  obtain ⟨f, fd, G, h1, h2⟩ := c
  have z' := z
  obtain ⟨e1, e2, e3, e4, e5⟩ := z
  intro pins s σ H x y v u Q I rx ry h
  obtain ⟨⟨i, rfl⟩, ⟨a, dx, fs, rfl, ha⟩, h⟩ := h
  cases (show u = Value.ref a from ry)
  obtain ⟨t, e⟩ := (show ∃ t, v = Value.int i t from rx)
  cases e
  rw [← e3] at hsub h1
  obtain ⟨mA, J0, _⟩ := ins_get I.hok ha
  obtain ⟨_, _, _, hget, _⟩ := (show ObjOk X.prog X.w H s.heap a (.ins C dx fs) from I.hok a _ ha)
  obtain ⟨od, J, _⟩ := J0.look
  rw [hop]
  refine cmp_R hr.units0 I.kIn J hsub one_int (wpAny_tryCompare_declines (typeIs_int _ i t) sl (hd hget ⟨rfl, rfl, rfl⟩)) ?_
  unfold tryCompare
  refine wpAny_bind (ifBound_K I.kIn J h1.fn h1.isf (wpAny_mono (run_fn (us := [.ref a, .int i t]) (vs := [.ref a, .int i]) (dvs := []) (z'.ok G) hr (by rw [e3]; exact h2) .nil hx I (.cons rfl (.cons ⟨t, rfl⟩ .nil)) h) (fun v s' z => ?_) fun _ _ z => z))
  have z2 := cmpBack z
  cases v <;> first | exact False.elim z2 | exact wpAny_pure ⟨_, rfl, z⟩
def rNeI (C : Addr) (sp : Sp) (E : XK) : R2 := fun x y H Q => (∃ i, x = .int i) ∧ InsC C H y ∧ sp [y, x] H (fun v H' => ∃ b, v = .bl b ∧ Q (.bl (!b)) H') E
theorem op_neI (c : CalS Z CX k C "__eq__" ps sp) (N : NeT Z.K C) (hsub : subIn Z.K (.ref C) (.type "int") = some false) (hr : Room (k + 1) X.A) (hx : Passes CX X E) (z : InZ Z X := by exact ⟨rfl, rfl, rfl, rfl, rfl⟩) : OpR X (compareOp .NotEq) (rNeI C sp E) := by
  obtain ⟨f, fd, G, h1, h2⟩ := c
  have z' := z
  obtain ⟨e1, e2, e3, e4, e5⟩ := z
  intro pins s σ H x y v u Q I rx ry h
  obtain ⟨⟨i, rfl⟩, ⟨a, dx, fs, rfl, ha⟩, h⟩ := h
  cases (show u = Value.ref a from ry)
  obtain ⟨t, e⟩ := (show ∃ t, v = Value.int i t from rx)
  cases e
  rw [← e3] at hsub h1 N
  obtain ⟨mA, J0, _⟩ := ins_get I.hok ha
  obtain ⟨_, _, _, hget, _⟩ := (show ObjOk X.prog X.w H s.heap a (.ins C dx fs) from I.hok a _ ha)
  obtain ⟨od, J, _⟩ := J0.look
  show wpAny _ _ (richCompare .NotEq (.int i t) (.ref a)) _ _ _
  refine cmp_R hr.units0 I.kIn J hsub one_int (wpAny_tryCompare_declines (typeIs_int _ i t) F.slot_int_ne (dec_ne hget ⟨rfl, rfl, rfl⟩)) ?_
  show wpAny _ _ (tryCompare (.ref a) "__ne__" (.int i t)) _ _ _
  refine tryNe (hu_of hr) I.kIn J N.ne N.m h1.fn h1.isf ?_
  refine wpAny_mono (run_fn1 (us := [.ref a, .int i t]) (vs := [.ref a, .int i]) (z'.ok G) hr (by rw [e3]; exact h2) hx I (.cons rfl (.cons ⟨t, rfl⟩ .nil)) h) (fun _ _ z => ?_) fun _ _ z => z
  obtain ⟨r, rfl, q⟩ := ne_back z
  exact ⟨r, rfl, _, rfl, q⟩
end
/-! ### facts of built-in classes -/
theorem nf_ty {K : Frag} {C : Addr} {T : String} (h : (fastBuiltinMro T).map (fun l => l.all fun v => match v with | .type _ => true | _ => false) = some true) : notFirst K C (.type T) = true := by
  unfold notFirst
  rw [noRef h]
  simp
theorem nf_own {K : Frag} {C : Addr} : notFirst K C (.ref C) = true := by simp [notFirst]
theorem nf_int {K : Frag} {C : Addr} : notFirst K C (.type "int") = true := nf_ty (by decide +kernel)
theorem nf_bool {K : Frag} {C : Addr} : notFirst K C (.type "bool") = true := nf_ty (by decide +kernel)
theorem nf_str {K : Frag} {C : Addr} : notFirst K C (.type "str") = true := nf_ty (by decide +kernel)
theorem nf_non {K : Frag} {C : Addr} : notFirst K C (.type "NoneType") = true := nf_ty (by decide +kernel)
theorem nf_flt {K : Frag} {C : Addr} : notFirst K C (.type "float") = true := nf_ty (by decide +kernel)
theorem nf_list {K : Frag} {C : Addr} : notFirst K C (.type "list") = true := nf_ty (by decide +kernel)
theorem nf_tuple {K : Frag} {C : Addr} : notFirst K C (.type "tuple") = true := nf_ty (by decide +kernel)
theorem nf_dict {K : Frag} {C : Addr} : notFirst K C (.type "dict") = true := nf_ty (by decide +kernel)
end Ps

/-! Shares: their comparisons, where nothing is raised. -/
namespace Ps
open PySem PySem.Spec PyProof.Rows PySem.W L2

/-- v is no number -/
def NotNum (K : Frag) (C : Addr) (H : Hp) (v : V) : Prop := ∃ t, TyX K H v t ∧ kitOne K t (.ref C) = some false ∧ notFirst K C t = true ∧ (t = .type "bool" ∨ kitOne K t (.type "int") = some false)
def spIsNum (K : Frag) (C : Addr) : Sp := fun vs H Q _ => ∃ v, vs = [v] ∧ (((∃ q, Nb C H v q) ∧ Q (.bl true) H) ∨ (NotNum K C H v ∧ Q (.bl false) H))
def gMin (q r : Int × Int) : Int := q.1 * r.2 - r.1 * q.2
def spMinus (C : Addr) : Sp := fun vs H Q _ => ∃ x y q r, vs = [x, y] ∧ Sh C H x q ∧ Nb C H y r ∧ Sz 4000 q ∧ Sz 4000 r ∧ ∀ H', Same H H' → Q (.int (gMin q r)) H'
def spOrd (C : Addr) (g : Int → Bool) : Sp := fun vs H Q _ => ∃ x y q r, vs = [x, y] ∧ Sh C H x q ∧ Nb C H y r ∧ Sz 4000 q ∧ Sz 4000 r ∧ ∀ H', Same H H' → Q (.bl (g (gMin q r))) H'
def spShEq (K : Frag) (C : Addr) : Sp := fun vs H Q _ => ∃ x y q, vs = [x, y] ∧ Sh C H x q ∧ ((∃ r, Nb C H y r ∧ Sz 4000 q ∧ Sz 4000 r ∧ ∀ H', Same H H' → Q (.bl (decide (gMin q r = 0))) H') ∨ (NotNum K C H y ∧ Q (.bl false) H))
theorem Nb.nf {Z : Cz} {C : Addr} (T : ShT Z C) {H : Hp} {y : V} {q : Int × Int} (h : Nb C H y q) : Nf Z.K C H y := by
  rcases h with ⟨a, dx, rfl, ha⟩ | ⟨i, rfl, _⟩
  · exact ⟨_, T.ty ha, nf_own⟩
  · exact ⟨_, .base (.int _), nf_int⟩
theorem NotNum.nf {K : Frag} {C : Addr} {H : Hp} {y : V} (h : NotNum K C H y) : Nf K C H y := by
  obtain ⟨t, ty, _, hn, _⟩ := h
  exact ⟨t, ty, hn⟩
section
variable {Z : Cz} {f C : Addr} {fd : FuncData}
abbrev CMinus (Z : Cz) (C : Addr) : Prop := CalM Z CX0 5 C "minus" ["self", "other"] [] (spMinus C)
theorem shF_no' (t u : Int) (m : Str) (h1 : (m == ("own_top" : Str)) = false) (h2 : (m == ("own_under" : Str)) = false) : (shF t u).lookup m = none := by
  unfold shF
  rw [List.lookup_cons, h1, List.lookup_cons, h2]
  rfl
end
end Ps

/-! A head by facts: defs by where they stand (a global, a method, a property's getter, a static method), one Bool for all else. -/
namespace Ps
open PySem PySem.Spec PyProof.Rows PySem.W L2 He

inductive At where
  | g (x : Str)
  | m (x m : Str)
  | p (x m : Str)
  | ps (x m : Str)
  | sm (x m : Str)
def rec0 (K : Frag) (p : Addr) (T : String) : Addr := match recIn K p T with
  | some (.ref g :: _) => g
  | _ => 0
def rec1 (K : Frag) (p : Addr) (T : String) : Addr := match recIn K p T with
  | some (_ :: .ref g :: _) => g
  | _ => 0
def At.a (K : Frag) : At → Addr
  | .g x => ga K x
  | .m x n => ma K (ga K x) n
  | .p x n => rec0 K (ma K (ga K x) n) "property"
  | .ps x n => rec1 K (ma K (ga K x) n) "property"
  | .sm x n => rec0 K (ma K (ga K x) n) "staticmethod"
def hdB (K : Frag) (p : Addr) (T : String) (g : Addr) : Bool := match recIn K p T with
  | some (.ref h :: _) => decide (h = g)
  | _ => false
theorem hdB_ok {K : Frag} {p g : Addr} {T : String} (h : hdB K p T g = true) : ∃ rest, recIn K p T = some (.ref g :: rest) := by
  unfold hdB at h
  split at h
  · rename_i a r e
    exact ⟨r, by rw [e, of_decide_eq_true h]⟩
  · cases h
def findB (K : Frag) (C : Addr) (m : Str) : Bool := eqO (findIn K (.ref C) m) (some (some (.ref (ma K C m))))
def At.ok (K : Frag) : At → Bool
  | .g x => eqO (nsIn K mainGlobals x) (some (some (.ref (ga K x))))
  | .m x n => findB K (ga K x) n && (isFn K (.ref (ma K (ga K x) n)) && selfFirst K (ga K x))
  | .p x n => findB K (ga K x) n && (eqO (specialIn K (.ref (ma K (ga K x) n)) "__get__") (some (some (.builtin "property.__get__"))) && (decide (takesIn K (.ref (ma K (ga K x) n)) = some true) && hdB K (ma K (ga K x) n) "property" (rec0 K (ma K (ga K x) n) "property")))
  | .ps x n => true
  | .sm x n => findB K (ga K x) n && hdB K (ma K (ga K x) n) "staticmethod" (rec0 K (ma K (ga K x) n) "staticmethod")
section
variable {K : Frag} {h : Heap} {mg : Str → Option Value} {x m : Str}
theorem At.glo (X : K.In h) (G : h.Ns mainGlobals mg) (c : (At.g x).ok K = true) : mg x = some (.ref (ga K x)) := mg_of X G (eqO_ok c)
theorem At.own (c : (At.m x m).ok K = true) : OwnOp K (ga K x) (ma K (ga K x) m) m := by
  obtain ⟨c1, c⟩ := ba c
  obtain ⟨c2, c3⟩ := ba c
  exact ⟨c3, eqO_ok c1, c2⟩
theorem At.meth (c : (At.m x m).ok K = true) (k : keepIn K (.ref (ma K (ga K x) m)) = true) : Meth K (ga K x) m (ma K (ga K x) m) := by
  obtain ⟨c1, c⟩ := ba c
  obtain ⟨c2, c3⟩ := ba c
  exact ⟨eqO_ok c1, c2, k⟩
theorem At.prop (c : (At.p x m).ok K = true) : PropOf K (ga K x) m (ma K (ga K x) m) (rec0 K (ma K (ga K x) m) "property") := by
  obtain ⟨c1, c⟩ := ba c
  obtain ⟨c2, c⟩ := ba c
  obtain ⟨c3, c4⟩ := ba c
  exact ⟨eqO_ok c1, eqO_ok c2, of_decide_eq_true c3, hdB_ok c4⟩
end
structure DefP where
  at_ : At
  name : Str
  qual : Str
  st : Stmt
  dfl : List Dv := []
def fnP (K : Frag) (a : Addr) : FnW := match K.lookup a with
  | some ⟨_, _, .func fd, _⟩ => some (fd.name, fd.qualname, fd.params, fd.body, fd.scope, fd.globals, fd.closure, fd.builtins)
  | _ => none
def DefP.val (d : DefP) : FnW := some (d.name, d.qual, defArgs d.st, .stmts (defBody d.st), defScope d.st, mainGlobals, [], builtinsNs)
def DefP.dvs (K : Frag) (d : DefP) : List V := d.dfl.map (Dv.v K)
def DefP.ok (K : Frag) (d : DefP) : Bool := d.at_.ok K && (keepIn K (.ref (d.at_.a K)) && (match K.lookup (d.at_.a K) with
  | some ⟨_, _, .func fd, _⟩ => codeIn K fd.code d.qual && dflB K fd.defaults (d.dvs K)
  | _ => false))
theorem DefP.funD {K : Frag} {d : DefP} (e : fnP K (d.at_.a K) = d.val) (c : d.ok K = true) : d.at_.ok K = true ∧ ∃ fd, FunD K d.name d.qual (defArgs d.st) (defBody d.st) (defScope d.st) (d.dvs K) [] (d.at_.a K) fd := by
  obtain ⟨ca, c⟩ := ba c
  obtain ⟨kp, c2⟩ := ba c
  refine ⟨ca, ?_⟩
  unfold fnP at e
  cases q : K.lookup (d.at_.a K) with
  | none =>
    rw [q] at c2
    cases c2
  | some o =>
    obtain ⟨oc, od, dt, osl⟩ := o
    rw [q] at c2 e
    cases dt with
    | func fd =>
      obtain ⟨n1, n2, n3, n4, n5, n6, n7, n8, n9, n10, n11, n12, n13, n14, n15⟩ := fd
      have e2 : (some (n1, n2, n3, n4, n5, n6, n7, n15) : FnW) = some (d.name, d.qual, defArgs d.st, .stmts (defBody d.st), defScope d.st, mainGlobals, [], builtinsNs) := e
      simp only [Option.some.injEq, Prod.mk.injEq] at e2
      obtain ⟨h1, h2, h3, h4, h5, h6, h7, h8⟩ := e2
      subst h1 h2 h3 h4 h5 h6 h7 h8
      have c3 : (codeIn K n13 d.qual && dflB K n8 (d.dvs K)) = true := c2
      obtain ⟨k1, k3⟩ := ba c3
      exact ⟨_, ⟨oc, od, n8, n9, n10, n11, n12, n13, n14, osl, rfl, q, k1, dflB_ok k3, .inl rfl⟩, kp⟩
    | _ => cases c2
/-- without defaults -/
theorem FunD.toFun {K : Frag} {x qual : Str} {st : Stmt} {f : Addr} {fd : FuncData} (F : FunD K x qual (defArgs st) (defBody st) (defScope st) [] [] f fd) : Fun K x qual st f fd := by
  obtain ⟨⟨oc, od, dV, kV, doc, pm, an, cdv, ct, osl, e, lk, hcd, hD, hK⟩, kp⟩ := F
  rcases hD with ⟨_, rfl⟩ | ⟨z, _⟩
  · exact ⟨⟨oc, od, kV, doc, pm, an, cdv, ct, osl, e, lk, hcd⟩, kp⟩
  · exact absurd rfl z
abbrev AlP : Type := Bool × List FnW
def obsP (fn : List DefP) (ex : Frag → Bool) (K : Frag) : AlP := (ex K && fn.all fun d => d.ok K, fn.map fun d => fnP K (d.at_.a K))
def valP (fn : List DefP) : AlP := (true, fn.map DefP.val)
def SaysP (fn : List DefP) (ex : Frag → Bool) (K : Frag) : Prop := obsP fn ex K = valP fn
/-- what the names reach, and the interpreter's own statics -/
def asP (g : Addr → Option Obj) (n : Nat) : List Addr := asD g n ++ [cStatics]
def obsPG (n : Nat) (fn : List DefP) (ex : Frag → Bool) (g : Addr → Option Obj) : AlP := obsP fn ex (frG g (asP g n))
def hookP (n : Nat) (fn : List DefP) (ex : Frag → Bool) : Hook where
  α := AlP
  obs := fun s => obsPG n fn ex s.heap.get?
  val := fun _ => valP fn
  says := fun _ h => ∃ K : Frag, K.In h ∧ SaysP fn ex K
  of := fun _ _ e => ⟨_, frG_in, e⟩
  keeps := fun _ _ _ ⟨K, hK, c⟩ k => ⟨K, Frag.In.keeps hK k, c⟩
theorem obsPG_eq {n : Nat} {fn : List DefP} {ex : Frag → Bool} {g : Addr → Option Obj} {s : Shared} (h : ∀ a, g a = s.heap.get? a) : obsPG n fn ex g = (hookP n fn ex).obs s := by
  have e : g = s.heap.get? := funext h
  rw [e] <;> rfl
section
variable {fn : List DefP} {ex : Frag → Bool} {K : Frag}
theorem SaysP.more (c : SaysP fn ex K) : ex K = true := (ba (show (ex K && fn.all fun d => d.ok K) = true from congrArg (fun z : AlP => z.1) c)).1
theorem SaysP.def_ (c : SaysP fn ex K) (i : Nat) {d : DefP} (h : fn[i]? = some d := by rfl) : d.at_.ok K = true ∧ ∃ fd, FunD K d.name d.qual (defArgs d.st) (defBody d.st) (defScope d.st) (d.dvs K) [] (d.at_.a K) fd := by
  have c2 := (ba (show (ex K && fn.all fun d => d.ok K) = true from congrArg (fun z : AlP => z.1) c)).2
  have e : fn.map (fun d => fnP K (d.at_.a K)) = fn.map DefP.val := congrArg (fun z : AlP => z.2) c
  have e2 : (fn.map fun d => fnP K (d.at_.a K))[i]? = (fn.map DefP.val)[i]? := by rw [e]
  rw [List.getElem?_map, List.getElem?_map, h] at e2
  exact DefP.funD (Option.some.inj e2) (List.all_eq_true.mp c2 d (List.mem_of_getElem? h))
end
/-- the plain def at x: what is known of it -/
structure Got (K : Frag) (mg : Str → Option Value) (x : Str) (st : Stmt) (f : Addr) (fd : FuncData) : Prop where
  F : Fun K x x st f fd
  m : mg x = some (.ref f)
/-- the method m of class x -/
structure GotM (K : Frag) (C : Addr) (m qual : Str) (st : Stmt) (f : Addr) (fd : FuncData) : Prop where
  F : Fun K m qual st f fd
  o : OwnOp K C f m
structure GotP (K : Frag) (C : Addr) (m qual : Str) (st : Stmt) (p f : Addr) (fd : FuncData) : Prop where
  F : Fun K m qual st f fd
  o : PropOf K C m p f
section
variable {fn : List DefP} {ex : Frag → Bool} {K : Frag} {h : Heap} {mg : Str → Option Value} {x m qual : Str} {st : Stmt}
theorem SaysP.glo (c : SaysP fn ex K) (X : K.In h) (G : h.Ns mainGlobals mg) (i : Nat) (e : fn[i]? = some ⟨.g x, x, x, st, []⟩) : ∃ f fd, Got K mg x st f fd := by
  obtain ⟨a, fd, F⟩ := c.def_ i e
  exact ⟨_, fd, ⟨FunD.toFun F, At.glo X G a⟩⟩
theorem SaysP.meth (c : SaysP fn ex K) (i : Nat) (e : fn[i]? = some ⟨.m x m, m, qual, st, []⟩) : ∃ f fd, GotM K (ga K x) m qual st f fd := by
  obtain ⟨a, fd, F⟩ := c.def_ i e
  exact ⟨_, fd, ⟨FunD.toFun F, At.own a⟩⟩
theorem SaysP.prop (c : SaysP fn ex K) (i : Nat) (e : fn[i]? = some ⟨.p x m, m, qual, st, []⟩) : ∃ p f fd, GotP K (ga K x) m qual st p f fd := by
  obtain ⟨a, fd, F⟩ := c.def_ i e
  exact ⟨_, _, fd, ⟨FunD.toFun F, At.prop a⟩⟩
end
section
variable {Z : Cz} {CX : CXT} {k : Nat} {C : Addr} {ps : List Str} {sp : Sp} {x m qual : Str} {st : Stmt} {p f : Addr} {fd : FuncData}
theorem Got.cal (g : Got Z.K Z.mg x st f fd) (G : Z.ok CX k f fd ps sp) (b : Binds Z.K fd ps []) : Cal Z CX k x ps [] sp := ⟨f, fd, [], G, g.m, g.F.kp, b, .nil⟩
theorem GotM.calS (g : GotM Z.K C m qual st f fd) (G : Z.ok CX k f fd ps sp) (b : Binds Z.K fd ps []) : CalS Z CX k C m ps sp := ⟨f, fd, G, g.o, b⟩
theorem GotM.calM (g : GotM Z.K C m qual st f fd) (cl : Cls Z.K C) (G : Z.ok CX k f fd ps sp) (b : Binds Z.K fd ps []) : CalM Z CX k C m ps [] sp := ⟨f, fd, [], G, ⟨g.o.fn, g.o.isf, g.F.kp⟩, cl, b, .nil⟩
theorem GotP.calP (g : GotP Z.K C m qual st p f fd) (cl : Cls Z.K C) (G : Z.ok CX k f fd ["self"] sp) (b : Binds Z.K fd ["self"] []) : CalP Z CX k C m sp := ⟨p, f, fd, [], G, g.o, cl, b, .nil⟩
end
/-! ### Bools of further facts -/
def numB (K : Frag) (C : Addr) (nm : String) : Bool := findB K C (PySem.dunder nm) && (findB K C (dunderR nm) && ((findIn K (.type "int") (PySem.dunder nm)).isSome && ((findIn K (.type "int") (dunderR nm)).isSome && (decide (subIn K (.type "int") (.ref C) = some false) && decide (subIn K (.ref C) (.type "int") = some false)))))
theorem numB_ok {K : Frag} {C : Addr} {nm : String} (c : numB K C nm = true) : NumF K C nm := by
  obtain ⟨c1, c⟩ := ba c
  obtain ⟨c2, c⟩ := ba c
  obtain ⟨c3, c⟩ := ba c
  obtain ⟨c4, c⟩ := ba c
  obtain ⟨c5, c6⟩ := ba c
  exact ⟨⟨_, eqO_ok c1⟩, ⟨_, eqO_ok c2⟩, Option.isSome_iff_exists.mp c3, Option.isSome_iff_exists.mp c4, of_decide_eq_true c5, of_decide_eq_true c6⟩
def freeB (K : Frag) (xs : List Str) : Bool := xs.all fun x => eqO (nsIn K mainGlobals x) (some none)
theorem freeB_ok {K : Frag} {h : Heap} {mg : Str → Option Value} (X : K.In h) (G : h.Ns mainGlobals mg) {xs : List Str} (c : freeB K xs = true) {x : Str} (hx : x ∈ xs) : mg x = none := mg_none_of X G (eqO_ok (List.all_eq_true.mp c x hx))
end Ps

/-! Static methods called by the class's name. -/
namespace Ps
open PySem PySem.Spec PyProof.Rows PySem.W L2 He

/-- C.m is a static method: its record at p, its def at g -/
structure StM (K : Frag) (C : Addr) (m : Str) (p g : Addr) : Prop where
  rd : readsIn K C (.type "type") = true
  ga : specialIn K (.ref C) "__getattribute__" = some (some (.builtin "type.__getattribute__"))
  at_ : findCls K (.ref C) (.type "type") m = some (.get (.builtin "staticmethod.__get__") (.ref p) .none (.ref C))
  rc : ∃ rest, recIn K p "staticmethod" = some (.ref g :: rest)
  kp : keepIn K (.ref g) = true
def CalT (Z : Cz) (CX : CXT) (k : Nat) (C : Addr) (m : Str) (sp : Sp) : Prop := ∃ p g, FnR Z.P Z.w Z.K Z.mg Z.base CX k g sp ∧ StM Z.K C m p g
def tSMeth (C : Addr) (sp : Sp) (E : XK) (ta : TE) (t : TA) : TE := fun σ H Q => ta σ H fun x H1 => x = .ref C ∧ t σ H1 fun vs H2 => sp vs H2 Q E
section
variable {Z : Cz} {X : Cx} {CX : CXT} {k : Nat} {C : Addr} {sp : Sp} {E : XK} {o e : Expr} {es : List Expr} {m : Str} {pos apos : Pos} {ta : TE} {t : TA} {pl : Sem Bool}
theorem getsm_ok {p g : Addr} {pins : List (Addr × Obj)} {σ : L2.St} {H : Hp} {s : Shared} {A : Around} {Er : Value → Shared → Prop} {Q : Value × List Value → Shared → Prop} (I : L2.Inv X pins σ H s) (r : StM X.K C m p g)
    (h : ∀ s', L2.Inv X pins σ H s' → Q (.ref g, []) s') : wpAny (model X.prog X.w) A (getMethod (.ref C) m pl) Q Er s := by
  obtain ⟨rest, hp⟩ := r.rc
  refine method_cls I.kIn r.ga ?_
  refine cls_bind I.kIn r.rd r.at_ ?_
  refine wpAny_call (sm_get (s := { s with toks := s.toks + 1 }) I.kIn hp (handed_on rfl ?_))
  exact h _ (I.tok _)
theorem pe_calT (c : CalT Z CX k C m sp) (hr : Room k X.A) (hx : Passes CX X E) (he : PE X o ta) (ha : PA X (e :: es) t) (z : InZ Z X := by exact ⟨rfl, rfl, rfl, rfl, rfl⟩)
    (hst : starEach (e :: es) X.env = (false, eval e X.env) :: starEach es X.env := by rfl) (hpl : (backTo pos (starEach es X.env)).any (·.1) = false := by rfl)
    (ht : eval (.Call (.Attribute o m apos) (e :: es) [] pos) X.env = (do
      let ov ← eval o X.env
      standAt apos.atName
      let (f, first) ← holding [ov] (getMethod ov m pl)
      callWith pos f first (backTo pos (starEach (e :: es) X.env)) (backToKw pos (keywordEach [] X.env))) := by rfl) :
    PE X (.Call (.Attribute o m apos) (e :: es) [] pos) (tSMeth C sp E ta t) := by
  obtain ⟨p, g, F, r⟩ := c
  obtain ⟨e1, e2, e3, e4, e5⟩ := z
  have F' : FnR X.prog X.w X.K X.mg X.base CX k g sp := by rw [e1, e2, e3, e4, e5]; exact F
  rw [← e3] at r
  refine ⟨fun pins s σ H Q I h => ?_⟩
  refine methodCall_KW (pl := pl) (thn (he.run pins s σ H _ I h) fun u s1 ⟨x, H1, I1, rx, ex, q⟩ => ?_) ht
  subst ex
  obtain rfl : u = Value.ref C := rx
  refine getsm_ok I1 r fun s2 I2 => ?_
  refine callWith_K (h₀ := X.base) I2.ok.mod.kin r.kp (thn (ha.run pos _ s2 σ H1 _ I2 q) fun us s3 ⟨vs, H2, I3, rv, q2⟩ => ⟨I3.kIn, ?_⟩) hst hpl
  exact wpAny_call (run_fnR F' hr hx I3 rv q2)
theorem pe_calT0 (c : CalT Z CX k C m sp) (hr : Room k X.A) (hx : Passes CX X E) (he : PE X o ta) (z : InZ Z X := by exact ⟨rfl, rfl, rfl, rfl, rfl⟩)
    (ht : eval (.Call (.Attribute o m apos) [] [] pos) X.env = (do
      let ov ← eval o X.env
      standAt apos.atName
      let (f, first) ← holding [ov] (getMethod ov m pl)
      callWith pos f first (backTo pos (starEach [] X.env)) (backToKw pos (keywordEach [] X.env))) := by rfl) :
    PE X (.Call (.Attribute o m apos) [] [] pos) (tSMeth C sp E ta tNil) := by
  obtain ⟨p, g, F, r⟩ := c
  obtain ⟨e1, e2, e3, e4, e5⟩ := z
  have F' : FnR X.prog X.w X.K X.mg X.base CX k g sp := by rw [e1, e2, e3, e4, e5]; exact F
  rw [← e3] at r
  refine ⟨fun pins s σ H Q I h => ?_⟩
  refine methodCall_KW (pl := pl) (thn (he.run pins s σ H _ I h) fun u s1 ⟨x, H1, I1, rx, ex, q⟩ => ?_) ht
  subst ex
  obtain rfl : u = Value.ref C := rx
  refine getsm_ok I1 r fun s2 I2 => ?_
  refine callWith_K0 I2.kIn r.kp ?_
  exact wpAny_call (run_fnR F' hr hx I2 (us := []) (vs := []) .nil q)
end
/-! behind the top -/
def statB (K : Frag) (x m : Str) : Bool := readsIn K (ga K x) (.type "type") && (eqO (specialIn K (.ref (ga K x)) "__getattribute__") (some (some (.builtin "type.__getattribute__"))) &&
  (match findCls K (.ref (ga K x)) (.type "type") m with
    | some (.get (.builtin b) (.ref p) .none (.ref c)) => decide (b = "staticmethod.__get__") && (decide (p = ma K (ga K x) m) && decide (c = ga K x))
    | _ => false))
theorem statB_ok {K : Frag} {x m : Str} (c : statB K x m = true) (a : (At.sm x m).ok K = true) (k : keepIn K (.ref ((At.sm x m).a K)) = true) : StM K (ga K x) m (ma K (ga K x) m) ((At.sm x m).a K) := by
  obtain ⟨c1, c⟩ := ba c
  obtain ⟨c2, c3⟩ := ba c
  obtain ⟨a1, a2⟩ := ba a
  refine ⟨c1, eqO_ok c2, ?_, hdB_ok a2, k⟩
  split at c3
  · rename_i b p c' e
    obtain ⟨d1, d⟩ := ba c3
    obtain ⟨d2, d3⟩ := ba d
    rw [e, of_decide_eq_true d1, of_decide_eq_true d2, of_decide_eq_true d3]
  · cases c3
theorem SaysP.stat {fn : List DefP} {ex : Frag → Bool} {K : Frag} {x m qual : Str} {st : Stmt} (c : SaysP fn ex K) (i : Nat) (e : fn[i]? = some ⟨.sm x m, m, qual, st, []⟩) (h : statB K x m = true) : ∃ p g fd, StM K (ga K x) m p g ∧ Fun K m qual st g fd := by
  obtain ⟨a, fd, F⟩ := c.def_ i e
  exact ⟨_, _, fd, statB_ok h a F.kp, FunD.toFun F⟩
/-- def m(*v) -/
theorem Fun.star0 {Z : Cz} {x qual pv : Str} {st : Stmt} {f : Addr} {fd : FuncData} {N : List Str} {k : Nat} {sp : Sp} {CX : CXT} (F : Fun Z.K x qual st f fd) (S : FnScope N [pv] (defScope st)) (hCX : StX.CXUp CX)
    (h0 : ∀ (kV doc pm : Value) (an : Option Addr) (cdv ct : Value), bindArgs (fnOf x qual (defArgs st) (defBody st) (defScope st) .none kV doc pm an cdv ct) ⟨[], []⟩ = (newTuple [] >>= fun t => pure [(pv, t)]))
    (h1 : ∀ (kV doc pm : Value) (an : Option Addr) (cdv ct : Value) (r : Value) (rs : List Value), bindArgs (fnOf x qual (defArgs st) (defBody st) (defScope st) .none kV doc pm an cdv ct) ⟨r :: rs, []⟩ = (newTuple (r :: rs) >>= fun t => pure [(pv, t)]))
    (hbody : ∀ (cdv : Value) (A : Around) (outer : List Env) (s : Shared) (H : Hp) (vs : List V) (Q : VK) (E : XK), Room k (A.deeper (envOfC qual (defScope st) s.heap.objs.size f cdv)) → sp vs H Q E →
      ∃ t, PSs (cxOf CX Z.P Z.w Z.K Z.mg Z.base N qual (defScope st) f cdv A outer s H E) (defBody st) t ∧ t { nx := fun _ H' => Q .non H', rt := Q } (start N vs) H) :
    FnR Z.P Z.w Z.K Z.mg Z.base CX (k + 1) f (fun vs H Q E => vs.length ≤ sizeLine ∧ ∀ p, H p = none → sp [V.ref p] (upd H p (.tup vs)) Q E) := by
  obtain ⟨oc, od, kV, doc, pm, an, cdv, ct, osl, rfl, lk, hcd⟩ := F.ex
  have G := StX.fn_star (ps := []) (pv := pv) (sp := sp) (k := k) (P := Z.P) (w := Z.w) (mg := Z.mg) (base := Z.base) lk hcd S hCX (fun us rest hl => match us, rest, hl with | [], [], _ => h0 kV doc pm an cdv ct | [], r :: rs, _ => h1 kV doc pm an cdv ct r rs) (fun A outer s H vs Q E hr hsp => hbody cdv A outer s H vs Q E hr hsp)
  exact G.imp fun vs H Q E ⟨hl, h⟩ => ⟨[], vs, rfl, rfl, hl, h⟩
end Ps

/-! Common words of the laws about shares. -/
namespace Ps
open PySem PySem.Spec PyProof.Rows PySem.W L2

/-- two rules of one operator -/
theorem op_both {X : Cx} {f : Value → Value → Sem Value} {r1 r2 : R2} (h1 : OpR X f r1) (h2 : OpR X f r2) : OpR X f (fun x y H Q => r1 x y H Q ∨ r2 x y H Q) := by
  intro pins s σ H x y v u Q I rx ry h
  rcases h with h | h
  · exact h1 pins s σ H x y v u Q I rx ry h
  · exact h2 pins s σ H x y v u Q I rx ry h
/-- a test, with a word behind it -/
def tCutT (t : TT) : TT := fun σ H Q => ∃ Mid : Bool → Hp → Prop, t σ H Mid ∧ ∀ b H', Mid b H' → Q b H'
theorem pt_cut {X : Cx} {e : Expr} {t : TT} (h : PT X e t) : PT X e (tCutT t) := by
  refine ⟨fun pins s σ H Q I q => ?_⟩
  obtain ⟨Mid, hm, hq⟩ := q
  exact thn (h.run pins s σ H Mid I hm) fun d s1 ⟨H1, I1, q1⟩ => ⟨H1, I1, hq _ _ q1⟩

theorem mk_shI {C x dx : Addr} {H : Hp} {Q2 : VK} {E : XK} {t u : Int} (hu : u ≠ 0) (hb : u.natAbs < 2 ^ 9000) (hx : H x = none) (hdx : H dx = none) (hne : dx ≠ x) (k : ∀ H', Same H H' → Sh C H' (.ref x) (low t u) → Q2 .non H') :
    spShInit C [.ref x, .int t, .int u] (upd (upd H dx (.own x)) x (.ins C dx [])) Q2 E := by
  refine ⟨x, dx, t, u, rfl, upd_same, hu, hb, fun H' h1 h2 => ?_⟩
  refine k H' (fun b o e => ?_) ⟨x, dx, rfl, h2⟩
  rw [h1 b (ne_of_none e hx), upd_ne (ne_of_none e hx), upd_ne (ne_of_none e hdx)]
  exact e
def pair (q : Int × Int) : List V := [.int q.1, .int q.2]
/-- a new list -/
def NewL (H : Hp) (Q : VK) (xs : List V) : Prop := ∀ p H', Same H H' → H p = none → H' p = some (.lst xs) → Q (.ref p) H'
theorem NewL.here {H H1 : Hp} {Q : VK} {xs : List V} (k : NewL H Q xs) (e : Same H H1) {p : Addr} (hp : H1 p = none) : Q (.ref p) (upd H1 p (.lst xs)) :=
  k p _ (e.trans (Same.upd hp)) (e.free hp) upd_same
theorem pair_dp {K : Frag} {H : Hp} {p : Addr} {q : Int × Int} (h : H p = some (.lst (pair q))) : Dp K H (.ref p) (.list [.int q.1, .int q.2]) := .lst (SqL.of h) (.cons (.int _) (.cons (.int _) .nil))

theorem gAdd_comm (q r : Int × Int) : gAdd q r = gAdd r q := by
  unfold gAdd
  rw [Int.add_comm, Int.mul_comm q.2]
theorem gMul_comm (q r : Int × Int) : gMul q r = gMul r q := by
  unfold gMul
  rw [Int.mul_comm q.1, Int.mul_comm q.2]
theorem Sz.low {n : Nat} {q : Int × Int} (h : Sz n q) : Sz n (Ps.low q.1 q.2) :=
  ⟨Int.ne_of_gt (low_pos h.ne), Nat.lt_of_le_of_lt (low_le1 h.ne) h.t, Nat.lt_of_le_of_lt (low_le2 h.ne) h.u⟩
theorem vne {i j : Int} (h : i ≠ j) : ¬ V.int i = V.int j := fun z => h (V.int.inj z)

theorem Sz.of_low {n : Nat} {t u : Int} (hu : u ≠ 0) (h1 : t.natAbs < 2 ^ n) (h2 : u.natAbs < 2 ^ n) : Sz n (Ps.low t u) :=
  ⟨Int.ne_of_gt (low_pos hu), Nat.lt_of_le_of_lt (low_le1 hu) h1, Nat.lt_of_le_of_lt (low_le2 hu) h2⟩
theorem add_lt {i j : Int} {n : Nat} (hi : i.natAbs < 2 ^ n) (hj : j.natAbs < 2 ^ n) : (i + j).natAbs < 2 ^ (n + 1) := by
  rw [Nat.pow_succ]
  omega
theorem Sz.add {n : Nat} {q r : Int × Int} (hq : Sz n q) (hr : Sz n r) : Sz (n + n + 1) (gAdd q r) :=
  Sz.of_low (Int.mul_ne_zero hq.ne hr.ne) (add_lt (wide_lt hq.t hr.u) (wide_lt hr.t hq.u)) (lt_up (wide_lt hq.u hr.u) (by omega))
theorem Sz.mul {n : Nat} {q r : Int × Int} (hq : Sz n q) (hr : Sz n r) : Sz (n + n) (gMul q r) :=
  Sz.of_low (Int.mul_ne_zero hq.ne hr.ne) (wide_lt hq.t hr.t) (wide_lt hq.u hr.u)
theorem Sz.by_ {n : Nat} {q r : Int × Int} (hq : Sz n q) (hr : Sz n r) (hn : r.1 ≠ 0) : Sz (n + n) (gBy q r) :=
  Sz.of_low (Int.mul_ne_zero hq.ne hn) (wide_lt hq.t hr.u) (wide_lt hq.u hr.t)
theorem shF_no (t u : Int) (m : Str) (h1 : (m == ("own_top" : Str)) = false) (h2 : (m == ("own_under" : Str)) = false) : (shF t u).lookup m = none := by
  unfold shF
  rw [List.lookup_cons, h1, List.lookup_cons, h2]
  rfl

theorem eqv_pair (q : Int × Int) : PyData.eqv (.list [.int q.1, .int q.2]) (.list [.int q.1, .int q.2]) = true := SeqAt.eqv_refl _ rfl
/-- all but p is as it was -/
def Keep (p : Addr) (H H' : Hp) : Prop := ∀ b, b ≠ p → ∀ o, H b = some o → H' b = some o
theorem Keep.refl (p : Addr) (H : Hp) : Keep p H H := fun _ _ _ h => h
theorem Keep.trans {p : Addr} {H H1 H2 : Hp} (a : Keep p H H1) (b : Keep p H1 H2) : Keep p H H2 := fun c hc o h => b c hc o (a c hc o h)
theorem Keep.of_same {p : Addr} {H H1 : Hp} (a : Same H H1) : Keep p H H1 := fun c hc o h => a c o h
theorem Keep.of_eq {p : Addr} {H H1 : Hp} (a : ∀ b, b ≠ p → H1 b = H b) : Keep p H H1 := fun c hc o h => by rw [a c hc]; exact h
theorem Keep.same {p : Addr} {H0 H H1 : Hp} (e : Same H0 H) (hp : H0 p = none) (a : Keep p H H1) : Same H0 H1 := fun b o h => a b (ne_of_none h hp) o (e b o h)
theorem Pool.new {H : Hp} {p q l : Addr} {ms : List Int} {i : Nat} {o : HO} (P : Pool H p q ms i) (hl : H l = none) : Pool (upd H l o) p q ms i :=
  ⟨by rw [upd_ne (ne_of_none P.at_ hl)]; exact P.at_, by rw [upd_ne (ne_of_none P.nums hl)]; exact P.nums, P.len, P.few⟩
theorem Pool.put {H : Hp} {p q l : Addr} {ms : List Int} {i : Nat} {o : HO} (P : Pool H p q ms i) (h1 : l ≠ p) (h2 : l ≠ q) : Pool (upd H l o) p q ms i :=
  ⟨by rw [upd_ne h1.symm]; exact P.at_, by rw [upd_ne h2.symm]; exact P.nums, P.len, P.few⟩
theorem Keep.put {p D : Addr} {H H1 : Hp} {o : HO} (k : Keep p H H1) (hD : H D = none) : Keep p H (upd H1 D o) := fun b hb u h => by
  rw [upd_ne (ne_of_none h hD)]
  exact k b hb u h
def spLaw (K : Frag) : Sp := fun vs H Q _ => ∃ (a : Addr) (ns : List Int), vs = [.ref a] ∧ SqL K H a (ns.map V.int) ∧ ns.length ≤ 63 ∧ ∀ H', Q (.bl true) H'
theorem small4000 {i : Int} (h : i.natAbs ≤ 1000) : i.natAbs < 2 ^ 4000 := lt_up (m := 10) (by omega) (by decide)
theorem two_of {ts : List Int} (h : ts.length = 2) : ∃ a b, ts = [a, b] := by
  match ts, h with
  | [a, b], _ => exact ⟨a, b, rfl⟩

/-- two lists, item by item -/
def Al {α : Type} (R : V → α → Prop) (vs : List V) (qs : List α) : Prop := vs.length = qs.length ∧ ∀ (i : Nat) (v : V) (q : α), vs[i]? = some v → qs[i]? = some q → R v q
section
variable {α : Type} {R S : V → α → Prop} {vs : List V} {qs : List α} {v : V} {q : α}
theorem Al.nil : Al R [] [] := ⟨rfl, fun i v q h => by simp at h⟩
theorem Al.imp (h : Al R vs qs) (k : ∀ v q, R v q → S v q) : Al S vs qs := ⟨h.1, fun i v q a b => k v q (h.2 i v q a b)⟩
theorem Al.snoc (h : Al R vs qs) (hv : R v q) : Al R (vs ++ [v]) (qs ++ [q]) := by
  refine ⟨by rw [List.length_append, List.length_append, h.1]; rfl, fun i a b ha hb => ?_⟩
  by_cases hi : i < vs.length
  · rw [List.getElem?_append_left hi] at ha
    rw [List.getElem?_append_left (by rw [← h.1]; exact hi)] at hb
    exact h.2 i a b ha hb
  · rw [List.getElem?_append_right (by omega)] at ha
    rw [List.getElem?_append_right (by rw [← h.1]; omega), ← h.1] at hb
    cases e : i - vs.length with
    | zero =>
      rw [e] at ha hb
      simp at ha hb
      subst ha; subst hb
      exact hv
    | succ j =>
      rw [e] at ha
      simp at ha
theorem Al.get (h : Al R vs qs) {i : Nat} (hv : vs[i]? = some v) : ∃ q, qs[i]? = some q ∧ R v q := by
  have hi : i < qs.length := by
    rw [← h.1]
    exact (List.getElem?_eq_some_iff.mp hv).1
  exact ⟨qs[i], List.getElem?_eq_getElem hi, h.2 i v _ hv (List.getElem?_eq_getElem hi)⟩
theorem Al.cons (hv : R v q) (h : Al R vs qs) : Al R (v :: vs) (q :: qs) := by
  refine ⟨by simp [h.1], fun i a b ha hb => ?_⟩
  cases i with
  | zero =>
    simp at ha hb
    subst ha; subst hb
    exact hv
  | succ j =>
    simp at ha hb
    exact h.2 j a b ha hb
theorem Al.uncons (h : Al R (v :: vs) (q :: qs)) : R v q ∧ Al R vs qs :=
  ⟨h.2 0 v q rfl rfl, by have := h.1; simpa using this, fun i a b ha hb => h.2 (i + 1) a b ha hb⟩
end
theorem take_more' {α : Type} {l : List α} {i : Nat} {x : α} (h : l[i]? = some x) : l.take (i + 1) = l.take i ++ [x] := by
  rw [List.take_succ, h]
  rfl
theorem Sz.add' {m n : Nat} {q r : Int × Int} (hq : Sz m q) (hr : Sz n r) : Sz (m + n + 1) (gAdd q r) :=
  Sz.of_low (Int.mul_ne_zero hq.ne hr.ne) (add_lt (wide_lt hq.t hr.u) (by rw [Nat.add_comm m n]; exact wide_lt hr.t hq.u)) (lt_up (wide_lt hq.u hr.u) (by omega))
theorem Sz.mul' {m n : Nat} {q r : Int × Int} (hq : Sz m q) (hr : Sz n r) : Sz (m + n) (gMul q r) :=
  Sz.of_low (Int.mul_ne_zero hq.ne hr.ne) (wide_lt hq.t hr.t) (wide_lt hq.u hr.u)
theorem Sz.sub' {m n : Nat} {q r : Int × Int} (hq : Sz m q) (hr : Sz n r) : Sz (m + n + 1) (gSub q r) := hq.add' hr.neg
end Ps

/-! Own errors over PlanError(Exception) whose __init__ keeps one field: made, raised, caught, read. -/
namespace Ps
open PySem PySem.W PySem.Calls PyProof.Rows PySem.HandSPX He

def xA (fl : Str) (p1 p2 : Pos) : Arguments := { posonlyargs := [], args := [{ arg := "self", annotation := none, pos := p1 }, { arg := fl, annotation := none, pos := p2 }], vararg := none, kwonlyargs := [], kw_defaults := [], kwarg := none, defaults := [] }
def xB (fl : Str) (q1 q2 q3 q4 : Pos) : List Stmt := [.Assign [.Attribute (.Name "self" q1) fl q2] (.Name fl q3) q4]
def xS (fl : Str) : Scope := { kind := .function, names := [(PySem.Str.ofString "self", .local), (fl, .local)], isGenerator := false, isCoroutine := false, more := [] }
/-- what the written part says of the error's class at C (its base at P), and of its __init__, at fI -/
structure ExT (K : Frag) (mg : Str → Option Value) (x fl qual : Str) (C P fI : Addr) : Prop where
  gC : mg x = some (.ref C)
  cls : ∃ nm q N bs sn sub ab col dd k0 k1 k2 k3 k5, K.lookup C = some (excClassObj nm q C N bs (.ref P :: ESX.exTail) true sn sub ab col dd k0 k1 k2 k3 k5 "Exception.__new__")
  sa : findIn K (.ref C) "__setattr__" = some (some (.builtin "object.__setattr__"))
  noN : findIn K (.ref C) fl = some none
  iC : findIn K (.ref C) "__init__" = some (some (.ref fI))
  tC : typeIn K (.ref fI) = some (.type "function")
  kC : keepIn K (.ref C) = true
  tyC : typeIn K (.ref C) = some (.type "type")
  xf : L2.XfC K C
  fn : ∃ (oc : Value) (od : Option Addr) (kV doc pm : Value) (an : Option Addr) (cdv ct : Value) (osl : Array (Option Value)) (p1 p2 q1 q2 q3 q4 : Pos),
    K.lookup fI = some ⟨oc, od, .func (fnOf "__init__" qual (xA fl p1 p2) (xB fl q1 q2 q3 q4) (xS fl) .none kV doc pm an cdv ct), osl⟩ ∧ codeIn K cdv qual = true
theorem one_size (v : Value) : [v].length ≤ sizeLine := by
  rw [sizeLine_eq]
  exact (by decide : 1 ≤ 16777216)
/-! ### self.f = f on a fresh error -/
section
open Builtin Builtin.ObjectAttr
variable {prog : Program} {w : World} {A : Around} {E : Value → Shared → Prop} {R : Result → Shared → Prop} {hp : Heap} {g : Array GenState} {d : Drawn} {t : Nat} {os : OsState}
theorem tailP_has {C P : Addr} (X : String) (hX : ESX.exTail.contains (.type X) = true) : (Value.ref C :: .ref P :: ESX.exTail).contains (.type X) = true := by
  rw [List.contains_cons, List.contains_cons, hX, Bool.or_true, Bool.or_true]
theorem tailP_eq {P : Addr} (X : String) : (Value.ref P :: ESX.exTail).contains (.type X) = ESX.exTail.contains (.type X) := by
  rw [List.contains_cons]
  rfl
theorem osa_P {K : Frag} {name : Str} {tk : Tok} {v : Value} {x C P : Addr} {fv : Array Value} {cd : ClassData}
    (X : K.In hp) (hx : hp.get? x = some { cls := .ref C, data := .fields fv }) (hcd : clsIn K C = some cd) (hm : cd.mro = .ref C :: .ref P :: ESX.exTail) (hh : cd.hasDict = true) (ha : findIn K (.ref C) name = some none)
    (hq : ∀ h' tk' dx, (∀ b o, b ≠ x → hp.get? b = some o → h'.get? b = some o) → hp.objs.size ≤ dx → dx ≠ x → h'.get? x = some { cls := .ref C, dict := some dx, data := .fields fv } →
      h'.Ns1 dx (fun y => if y = name then some v else none) → R (.ok (.ret .none)) ⟨h', g, d, tk', os⟩) :
    codeAny (model prog w) A (.call (.builtin "object.__setattr__") ⟨[.ref x, .str name tk, v], []⟩) R ⟨hp, g, d, t, os⟩ := by
  have I : InstAt hp x { cls := .ref C, data := .fields fv } C none := ⟨hx, rfl, rfl, trivial⟩
  have hxs : x ≠ hp.objs.size := Nat.ne_of_lt (Heap.lt_size hx)
  have SF := F.store_object
  have mro : mroIn K C (.type "object") = some true := by
    unfold mroIn
    rw [hcd, Option.bind_some, hm, if_neg (show ¬ (List.isEmpty (Value.ref C :: .ref P :: ESX.exTail) = true) from Bool.false_ne_true), tailP_has "object" (by decide +kernel)]
  have sub : Looks (model prog w) hp (isInstance (.ref x) (.type "object")) true := I.type.andThen (looks_mroIn X mro)
  refine codeAny_call_builtin SF.slot.plain SF.entry (@check_slot (model prog w) _ _ ⟨hp, g, d, t, os⟩ "object.__setattr__" "object" "__setattr__" (.ref x) [.str name tk, v] [] _ SF.kind SF.split sub (SF.args (.ref x) (.str name tk) v) ?_)
  have hmr : Looks (model prog w) hp (mroOf (.ref C)) cd.mro := (looks_clsIn X hcd).andThen .now
  have L3 : Looks (model prog w) hp (storeTaker? none) none := .now
  have hpass : refuseLoop (.ref x) "__setattr__" cd.mro = pure () := by
    rw [hm, refuseLoop_ref, refuseLoop_ref]
    exact F.store_Exception.passes _
  rw [osa_eq, refuse_eq]
  refine wpAny_bind (wpAny_bind (I.type.at (wpAny_bind (hmr.at ?_))))
  rw [hpass]
  refine wpAny_pure (wpAny_bind (I.type.at (wpAny_bind ((looks_findIn X ha).at (wpAny_bind (L3.at ?_))))))
  show wpAny _ _ (storeInOwnDict (.ref x) (.ref C) (.str name tk) name v false) _ _ _
  have hcls : Looks (model prog w) hp (classData C) cd := looks_clsIn X hcd
  obtain ⟨nm, bs, mro, ns, qn, hd, sn, sb, ab, col, del⟩ := cd
  dsimp only at hh
  subst hh
  unfold storeInOwnDict ownDictForStores
  repeat (first | with_reducible refine HandSPX.store_in_new ?_ ?_ | with_reducible refine wpAny_loadPart_at hx ?_ | with_reducible refine hcls.at ?_ | wp_step)
  · exact ⟨_, #[], _, (Heap.get?_update_ne _ _ _ _ hxs.symm).trans (Heap.get?_push_at rfl rfl), rfl, fun e he => absurd he (by simp), fun _ => rfl⟩
  · intro h' tk' hn' hs
    have hx₁ : (hp.push { cls := .type "dict", data := .dict #[] }).get? x = some { cls := .ref C, data := .fields fv } := Heap.get?_push_of_some _ hx
    refine hq h' tk' hp.objs.size (fun b o hb ho => ?_) (Nat.le_refl _) hxs.symm ?_ hn'
    · exact (hs.2 b (Nat.ne_of_lt (Heap.lt_size ho))).trans ((Heap.get?_update_ne _ _ _ _ hb).trans (Heap.get?_push_of_some _ ho))
    · exact (hs.2 x hxs).trans (Heap.get?_update_self _ hx₁ rfl)
end
theorem ldX {M : Model} {s : Shared} {name : Str} {scope : Scope} {L a : Addr} {cd : Value} {m : Str → Option Value} {x : Str} {pos : Pos} {v : Value} {Q : Value → Shared → Prop} {A : Around} {E : Value → Shared → Prop} (hn : s.heap.Ns L m) (hv : m x = some v) (h : Q v s)
    (hl : (envOfC name scope L a cd).kindOf x = some .local) (hd : (x == ("__debug__" : Str)) = false) (hk : scope.kind = .function := by rfl) :
    wpAny M A (eval (.Name x pos) (envOfC name scope L a cd)) Q E s := wpAny_Name (wpAny_loadName_local hk hl hn hv h) hd
/-- what __init__ leaves of a fresh error at x -/
structure XInit (h h' : Heap) (x C dx t1 : Addr) (fl : Str) (v : Value) : Prop where
  keep : ∀ b o, b ≠ x → h.get? b = some o → h'.get? b = some o
  obj : h'.get? x = some { cls := .ref C, dict := some dx, data := .fields #[.ref t1, .none, .none, .none, .bool false, .none] }
  dbig : h.objs.size ≤ dx
  dne : dx ≠ x
  ns : h'.Ns1 dx (fun y => if y = fl then some v else none)
/-- a made error -/
structure XMade (h h' : Heap) (e C d : Addr) (fl : Str) (v : Value) : Prop where
  keep : ∀ b o, h.get? b = some o → h'.get? b = some o
  new : h.objs.size ≤ e
  obj : ∃ t1, h'.get? e = some { cls := .ref C, dict := some d, data := .fields #[.ref t1, .none, .none, .none, .bool false, .none] }
  dbig : h.objs.size ≤ d
  dne : d ≠ e
  ns : h'.Ns1 d (fun y => if y = fl then some v else none)
/-- a field's name that is no special one -/
structure FlOk (fl : Str) : Prop where
  bind : ∀ (qual : Str) (p1 p2 : Pos) (b : List Stmt) (sc : Scope) (kV doc pm : Value) (an : Option Addr) (cdv ct a v : Value), bindArgs (fnOf "__init__" qual (xA fl p1 p2) b sc .none kV doc pm an cdv ct) ⟨[a, v], []⟩ = pure [(("self" : Str), a), (fl, v)]
  all_ : ∀ a v : Value, ([(("self" : Str), a), (fl, v)].all fun y => List.lookup y.fst (xS fl).names == some NameKind.local || List.lookup y.fst (xS fl).names == some NameKind.cell) = true
  bf : ∀ (qual : Str) (L f : Addr) (cdv a v : Value), bindL (envOfC qual (xS fl) L f cdv).kindOf [(("self" : Str), a), (fl, v)] (fun _ => none) fl = some v
  bs : ∀ (qual : Str) (L f : Addr) (cdv a v : Value), bindL (envOfC qual (xS fl) L f cdv).kindOf [(("self" : Str), a), (fl, v)] (fun _ => none) "self" = some a
  ks : ∀ (qual : Str) (L f : Addr) (cdv : Value), (envOfC qual (xS fl) L f cdv).kindOf "self" = some .local
  kf : ∀ (qual : Str) (L f : Addr) (cdv : Value), (envOfC qual (xS fl) L f cdv).kindOf fl = some .local
  dbg : (fl == ("__debug__" : Str)) = false
theorem fl_value : FlOk "value" := ⟨fun _ _ _ _ _ _ _ _ _ _ _ _ _ => rfl, fun _ _ => rfl, fun _ _ _ _ _ _ => rfl, fun _ _ _ _ _ _ => rfl, fun _ _ _ _ => rfl, fun _ _ _ _ => rfl, by decide⟩
section
variable {prog : Program} {w : World} {A : Around} {E : Value → Shared → Prop} {R : Result → Shared → Prop} {s : Shared} {K : Frag} {mg : Str → Option Value} {x0 fl qual : Str} {C P fI : Addr}
theorem x_init (T : ExT K mg x0 fl qual C P fI) (hf : FlOk fl) {x t0 : Addr} {v : Value} (X : K.In s.heap) (hlim : s.heap.NoLimit) (hx : s.heap.get? x = some (excO C t0)) (hroom : A.depth < recursionLimit)
    (hq : ∀ h' tk dx, XInit s.heap h' x C dx t0 fl v → R (.ok (.ret .none)) { s with heap := h', toks := tk }) :
    codeAny (model prog w) A (.call (.ref fI) ⟨[.ref x, v], []⟩) R s := by
  obtain ⟨oc, od, kV, doc, pm, an, cdv, ct, osl, p1, p2, q1, q2, q3, q4, ho, hcd⟩ := T.fn
  obtain ⟨nm, q, N, bs, sn, sub, ab, col, dd, k0, k1, k2, k3, k5, hC⟩ := T.cls
  have hcl : clsIn K C = some { name := nm, bases := bs, mro := .ref C :: .ref P :: ESX.exTail, ns := N, qualname := q, hasDict := true, slotNames := sn, subclasses := sub, abstract := ab, collection := col, hasDel := false } := by unfold clsIn; rw [hC] <;> rfl
  refine Att.call_fn (binds := [("self", .ref x), (fl, v)]) X hlim ho hcd hroom (BindsTo.of_eq (hf.bind _ _ _ _ _ _ _ _ _ _ _ _ _)) (hf.all_ _ _) (fun s₁ IC => ?_) rfl rfl rfl
  obtain ⟨h₁, tk₁, rfl⟩ := IC.toInCall.same
  have k : ∀ b o, s.heap.get? b = some o → h₁.get? b = some o := IC.toInCall.keep
  have hn := IC.toInCall.ns
  have hxL : s.heap.objs.size ≠ x := Nat.ne_of_gt (Heap.lt_size hx)
  have X₁ : K.In h₁ := X.keeps k
  have hx₁ := k _ _ hx
  show wpAny _ _ (execs _ _) _ _ _
  refine wpAny_execs_cons (plainObj_wpAny_Assign_Attribute ?_)
  refine ldX (v := v) hn (hf.bf _ _ _ _ _ _) (ldX (v := .ref x) hn (hf.bs _ _ _ _ _ _) ?_ (hf.ks _ _ _ _) (by decide)) (hf.kf _ _ _ _) hf.dbg
  refine set_plain X₁ (ox := excO C t0) (od := none) ⟨hx₁, rfl, rfl, trivial⟩ T.sa ?_
  refine osa_P X₁ hx₁ hcl rfl rfl T.noN (fun h₃ tk₃ dx k₃ dn dne hx₃ hn₃ => ?_)
  show wpAny _ _ (execs _ _) _ _ _
  have z : s.heap.objs.size < h₁.objs.size := hn.lt
  exact wpAny_execs_nil (hq h₃ tk₃ dx ⟨fun b o hb e => k₃ b o hb (k b o e), hx₃, Nat.le_of_lt (Nat.lt_of_lt_of_le z dn), dne, hn₃⟩)
theorem x_made (T : ExT K mg x0 fl qual C P fI) (hf : FlOk fl) {v : Value} (X : K.In s.heap) (hlim : s.heap.NoLimit) (hroom : A.depth + 1 < recursionLimit)
    (hq : ∀ h' tk e d, XMade s.heap h' e C d fl v → R (.ok (.ret (.ref e))) { s with heap := h', toks := tk }) :
    codeAny (model prog w) A (.call (.ref C) ⟨[v], []⟩) R s := by
  obtain ⟨nm, q, N, bs, sn, sub, ab, col, dd, k0, k1, k2, k3, k5, hC⟩ := T.cls
  obtain ⟨hp, g, dr, tk, os⟩ := s
  have k : ∀ b o, hp.get? b = some o → ((hp.push (kdv_tup [v])).push (excO C hp.objs.size)).get? b = some o := fun b o e => Heap.get?_push_of_some _ (Heap.get?_push_of_some _ e)
  have hget : ((hp.push (kdv_tup [v])).push (excO C hp.objs.size)).get? (hp.objs.size + 1) = some (excO C hp.objs.size) := by heap_get
  refine call_own F.excBase_Exception (fun X => tailP_eq X) (X _ _ hC) (looks_findIn X T.iC) (fun self => bind_fn X self T.tC) (one_size v) ?_
  refine x_init (s := ⟨(hp.push (kdv_tup [v])).push (excO C hp.objs.size), g, dr, tk, os⟩) T hf (X.keeps k) (hlim.keeps k) hget ?_ fun h' tk' dx ⟨k', hx, dn, dne, hns⟩ => ?_
  · show A.depth + 1 < recursionLimit
    exact hroom
  · have old : ∀ b o, hp.get? b = some o → h'.get? b = some o := fun b o e => k' b o (Nat.ne_of_lt (Nat.lt_succ_of_lt (Heap.lt_size e))) (k b o e)
    have z : hp.objs.size + 1 + 1 ≤ dx := by
      first
        | (simpa only [Heap.size_push] using dn)
        | exact dn
        | (have q := dn; rw [Heap.size_push, Heap.size_push] at q; exact q)
    exact ⟨rfl, hq h' tk' (hp.objs.size + 1) dx ⟨old, Nat.le_succ _, ⟨_, hx⟩, Nat.le_trans (Nat.le_trans (Nat.le_succ _) (Nat.le_succ _)) z, dne, hns⟩⟩
end
open PySem.Spec L2
theorem relO_x {fl : Str} {v : V} {v' : Value} (r : RelV v v') (f : Str) : RelO (List.lookup f [(fl, v)]) (if f = fl then some v' else none) := by
  by_cases hw : f = fl
  · subst hw
    rw [if_pos rfl]
    have q : List.lookup f [(f, v)] = some v := by simp [List.lookup]
    rw [q]
    exact r
  · rw [if_neg hw]
    have qw : (f == fl) = false := by simpa using hw
    have q2 : List.lookup f [(fl, v)] = none := by simp [List.lookup, qw]
    rw [q2]
    trivial
section
variable {X : Cx} {C P fI : Addr} {x0 fl qual : Str}
/-- X(e) -/
def tMkX (C : Addr) (fl : Str) (ta : TA) : L2.St → Hp → XK → Prop := fun σ H Q => ta σ H fun vs H1 => ∃ v, vs = [v] ∧ ∀ d, H1 d = none → Q (.ref C) (some d) (L2.upd H1 d (.xd [(fl, v)]))
theorem pmk_x {a : Expr} {ta : TA} {p pos : Pos} {k : Nat} (T : ExT X.K X.mg x0 fl qual C P fI) (hf : FlOk fl) (hr : Room k X.A) (ha : PA X [a] ta) (hg : Gl X x0)
    (he : starEach (a :: []) X.env = (false, eval a X.env) :: starEach [] X.env := by rfl) (hpl : (backTo pos (starEach [] X.env)).any (·.1) = false := by rfl) (hdb : (x0 == ("__debug__" : Str)) = false := by decide) :
    L2N.PMk X (.Call (.Name x0 p) [a] [] pos) (tMkX C fl ta) := by
  intro pins s σ H Q I h
  refine wpAny_Call_Name_kw (ld_glob I hg T.gC ?_ hdb)
  refine callWith_K (h₀ := X.base) I.ok.mod.kin T.kC (thn (ha.run pos pins s σ H _ I h) fun us s1 hh => ?_) he hpl
  obtain ⟨vs, H1, I1, r1, v, ev, q1⟩ := hh
  subst ev
  refine ⟨I1.kIn, ?_⟩
  cases r1 with
  | cons rv rn =>
    rename_i v' us'
    cases rn
    show wpAny _ _ (call (.ref C) [v']) _ _ _
    have hlim := I1.nolimit
    obtain ⟨hp, g, dr, tk, os⟩ := s1
    refine wpAny_call (x_made T hf I1.kIn hlim (by have := hr.dp; omega) fun h' tk' e d M => ?_)
    show L2N.MkP X pins σ Q (.ref e) ⟨h', g, dr, tk', os⟩
    obtain ⟨t1, hoe⟩ := M.obj
    have hns := M.ns
    obtain ⟨G', g1, g2⟩ := restrict h' fun b => decide (b ≠ e)
    have gk : ∀ b, b ≠ e → G'.get? b = h'.get? b := fun b hb => g1 b (decide_eq_true hb)
    have ge : G'.get? e = none := g2 e (by simp)
    have old : ∀ b o, hp.get? b = some o → G'.get? b = some o := fun b o q => (gk b (Nat.ne_of_lt (Nat.lt_of_lt_of_le (Heap.lt_size q) M.new))).trans (M.keep b o q)
    have ob : ObjOk X.prog X.w (L2.upd H1 d (.xd [(fl, v)])) G' d (.xd [(fl, v)]) :=
      ⟨_, hns.at (fun o q => (gk d M.dne).trans q), fun f => relO_x rv f⟩
    have J : L2.Inv X pins σ (L2.upd H1 d (.xd [(fl, v)])) ⟨G', g, dr, tk', os⟩ := I1.laid (t' := tk') old M.dbig ob
    refine ⟨e, _, _, ⟨G', g, dr, tk', os⟩, _, .ref C, some d, rfl, J, fun b o q => ?_, ge, hoe, ⟨rfl, rfl, fun vs e => by cases e; rfl⟩, rfl, rfl, ?_, rfl, I1.bare, raises_own T.xf.exC T.tyC, q1 d (I1.hok.fresh M.dbig)⟩
    · by_cases hb : b = e
      · have q' : G'.get? b = some o := q
        rw [hb, ge] at q'; cases q'
      · exact (gk b hb).symm.trans q
    · rw [upd_ne (Ne.symm M.dne)]
      exact I1.hok.fresh M.new
/-- raise X(e) -/
def tRaiseX (C : Addr) (fl : Str) (W : WX) (ta : TA) : TS := fun _ σ H => tMkX C fl ta σ H fun cls d H' => W cls d σ H'
theorem ps_raiseX {a : Expr} {ta : TA} {W : WX} {p pos pos2 : Pos} {k : Nat} (T : ExT X.K X.mg x0 fl qual C P fI) (hf : FlOk fl) (hr : Room k X.A) (tk : L2N.Takes X W) (ha : PA X [a] ta) (hg : Gl X x0) (hc : X.calm = true := by rfl)
    (he : starEach (a :: []) X.env = (false, eval a X.env) :: starEach [] X.env := by rfl) (hpl : (backTo pos (starEach [] X.env)).any (·.1) = false := by rfl) (hdb : (x0 == ("__debug__" : Str)) = false := by decide) :
    PS X (.Raise (some (.Call (.Name x0 p) [a] [] pos)) none pos2) (tRaiseX C fl W ta)   := L2N.ps_raise hc tk (pmk_x T hf hr ha hg he hpl hdb)
end
end Ps

/-! try with several named clauses; calls whose errors are wished for at the caller's slots. -/
namespace Ps
open PySem PySem.Spec PyProof.Rows L2

/-- a clause: the class, the name's slot, the suite's reading -/
abbrev Cl : Type := Value × Nat × (Addr → Value → Option Addr → TS)
/-- the ends of a suite whose name goes behind it -/
def endsN (D : Ends) (i : Nat) : Ends := { nx := fun σ' H' => D.nx (σ'.set i none) H', rt := D.rt, bk := fun σ' H' => D.bk (σ'.set i none) H', ct := fun σ' H' => D.ct (σ'.set i none) H' }
def wN (K : PySem.W.Frag) (Wout : WX) (D : Ends) : List Cl → WX
  | [] => Wout
  | (c, i, ts) :: r => fun cls d σ H => ∃ b, PySem.W.exmOne K cls c = some b ∧ (b = true → ∀ a, H a = none → ts a cls d (endsN D i) (σ.set i (some (.ref a))) H) ∧ (b = false → wN K Wout D r cls d σ H)
inductive HdsN (X : Cx) : List ExceptHandler → List Cl → Prop
  | nil : HdsN X [] []
  | cons {x n : Str} {c : Value} {i : Nat} {ts : Addr → Value → Option Addr → TS} {b₀ : Stmt} {suite : List Stmt} {np pos' : Pos} {hds : List ExceptHandler} {l : List Cl} (hi : X.N[i]? = some n) (hln : X.env.kindOf n = some .local) (hc : Names X x c)
      (hsu : ∀ (a : Addr) (oe : Obj) (cls : Value) (d : Option Addr) (pn : List (Addr × Obj)), L2N.Zn cls d oe → (∃ vs, oe.data = .fields vs) → PSs (X.suite a ((a, oe) :: pn)) (b₀ :: suite) (ts a cls d)) (r : HdsN X hds l) :
      HdsN X (.ExceptHandler (some (.Name x np)) (some n) (b₀ :: suite) pos' :: hds) ((c, i, ts) :: l)
/-- the error has landed: s is the state, sI the one without it -/
structure Down (X : Cx) (pins : List (Addr × Obj)) (a : Addr) (B : Heap) (cls : Value) (d : Option Addr) (σ : L2.St) (H : Hp) (sI s : Shared) : Prop where
  inv : L2.Inv X pins σ H sI
  nb : ∀ b o, sI.heap.get? b = some o → b ∉ frs X.stack → B.get? b = some o
  up : sI.heap.UpToSlots s.heap
  fl : HandSPX.FlyingZ B (X.env :: X.outer) a (L2N.Zn cls d) s.heap
  na : H a = none
  os : s.os = sI.os
  ag : AllBare s.gens
section
variable {X : Cx} {pins : List (Addr × Obj)} {a : Addr} {B : Heap} {cls : Value} {d : Option Addr} {σ : L2.St} {H : Hp} {sI s : Shared} {Wout : WX} {D : Ends}
theorem Down.here (G : Down X pins a B cls d σ H sI s) : L2.Inv X pins σ H s := G.inv.landed G.nb G.fl.1 G.up G.os G.ag
theorem Down.off (G : Down X pins a B cls d σ H sI s) (hf : X.env.frame = some X.env.locals) : a ≠ X.env.locals ∧ a ∉ X.fs := by
  obtain ⟨oe, vs, he, hz, hd⟩ := G.fl.there
  have nfr : a ∉ frs (X.env :: X.outer) := fun hm => by
    obtain ⟨_, o', e', hnf⟩ := G.fl.2.2.1.mem hm
    rw [he] at e'
    cases e'
    exact hnf _ hd
  refine ⟨fun z => nfr (List.mem_filterMap.mpr ⟨X.env, List.mem_cons_self, by rw [hf, z]⟩), fun hm => ?_⟩
  obtain ⟨e, h1, q⟩ := List.mem_filterMap.mp hm
  exact nfr (List.mem_filterMap.mpr ⟨e, List.mem_cons_of_mem _ h1, q⟩)
/-- no clause is left: it goes on -/
theorem down_nil (G : Down X pins a B cls d σ H sI s) (hs : X.stack = X.env :: X.outer) (hf : X.env.frame = some X.env.locals) (tk : L2N.Takes X Wout) (w : Wout cls d σ H) : wpAny (model X.prog X.w) X.A (handleBy (.ref a) X.env []) (SP X pins D) X.xe s := by
  refine wpAny_handleBy_nil ?_
  obtain ⟨k1, k2, k3, oe, vs, T, oT, ts', he, hz, hd, h1, hr⟩ := id G.fl
  unfold PySem.passOn
  refine wpAny_bind (wpAny_field he hd h1 ?_)
  rw [if_neg (show ¬ ((Value.ref T == Value.none) = true) from by simp)]
  have fin : wpAny (model X.prog X.w) X.A (setFlight (.ref a) X.env.frame) (fun _ s4 => wpAny (model X.prog X.w) X.A (throw (.ref a) : Sem Flow) (SP X pins D) X.xe s4) X.xe s := by
    rw [hf]
    refine HandSPX.setFlight_upZ G.fl fun h4 hh4 up4 => wpAny_throw (tk _ _ ?_)
    exact ⟨a, B, sI, pins, σ, H, cls, d, rfl, G.inv, G.nb, G.up.trans up4, .inr (.inr (by rw [hs]; exact hh4)), G.na, G.os, G.ag, w⟩
  first
    | exact wpAny_bind (wpAny_pure (wpAny_bind fin))
    | exact wpAny_bind fin
/-- the clause's suite runs -/
theorem down_suite {n : Str} {i : Nat} {ts : Addr → Value → Option Addr → TS} {b₀ : Stmt} {suite : List Stmt} {pos' : Pos} {Q : Flow → Shared → Prop} {E1 E2 : Value → Shared → Prop} (G : Down X pins a B cls d σ H sI s) (hf : X.env.frame = some X.env.locals) (hN : X.N.Nodup) (hi : X.N[i]? = some n) (hln : X.env.kindOf n = some .local)
    (hsu : ∀ (a : Addr) (oe : Obj) (cls : Value) (d : Option Addr) (pn : List (Addr × Obj)), L2N.Zn cls d oe → (∃ vs, oe.data = .fields vs) → PSs (X.suite a ((a, oe) :: pn)) (b₀ :: suite) (ts a cls d))
    (w : ts a cls d (endsN D i) (σ.set i (some (.ref a))) H) (hQ : ∀ f s', SP X pins D f s' → Q f s') :
    wpAny (model X.prog X.w) (X.A.mark (some (.ref a))) (storeName X.env n (.ref a)) (fun _ s5 => wpAny (model X.prog X.w) (X.A.mark (some (.ref a))) (execs (b₀ :: suite) X.env)
      (fun f s6 => wpAny (model X.prog X.w) X.A (do bindName X.env n .none; unbindBehindTheSuite X.env n pos') (fun _ s7 => Q f s7) X.xe s6) E2 s5) E1 s := by
  obtain ⟨oe, vs, he, hz, hd⟩ := G.fl.there
  have J := G.here
  obtain ⟨nL, nF⟩ := G.off hf
  have S4 := J.suite he hd G.na nL nF
  refine store_ok (X := X.suite a ((a, oe) :: (X.pn ++ pins))) (v := .ref a) S4 hN hi (.inl hln) rfl (fun s5 S5 => ?_) (.inr hln)
  refine wpAny_mono ((hsu a oe cls d (X.pn ++ pins) hz ⟨_, hd⟩).run [] s5 _ H _ S5 w) (fun f s6 hsp => ?_) (fun _ _ z => False.elim z)
  have away : ∀ {σ6 : L2.St} {H6 : Hp}, L2.Inv (X.suite a ((a, oe) :: (X.pn ++ pins))) [] σ6 H6 s6 → (∀ s7, L2.Inv X pins (σ6.set i none) H6 s7 → SP X pins D f s7) →
      wpAny (model X.prog X.w) X.A (do bindName X.env n .none; unbindBehindTheSuite X.env n pos') (fun _ s7 => Q f s7) X.xe s6 := fun {σ6 H6} S6 hq => gone_ok (S6.unsuite J.ok) hN hi hln fun s7 J7 => hQ _ _ (hq s7 J7)
  cases f with
  | next => obtain ⟨σ6, H6, S6, q6⟩ := hsp; exact away S6 fun s7 J7 => ⟨_, _, J7, q6⟩
  | brk => obtain ⟨σ6, H6, S6, q6⟩ := hsp; exact away S6 fun s7 J7 => ⟨_, _, J7, q6⟩
  | cont => obtain ⟨σ6, H6, S6, q6⟩ := hsp; exact away S6 fun s7 J7 => ⟨_, _, J7, q6⟩
  | ret u => obtain ⟨v6, σ6, H6, S6, r6, q6⟩ := hsp; exact away S6 fun s7 J7 => ⟨_, _, _, J7, r6, q6⟩
theorem down_all (hs : X.stack = X.env :: X.outer) (hf : X.env.frame = some X.env.locals) (hN : X.N.Nodup) (tk : L2N.Takes X Wout) : ∀ {hds : List ExceptHandler} {l : List Cl}, HdsN X hds l → ∀ {s : Shared}, Down X pins a B cls d σ H sI s → wN X.K Wout D l cls d σ H →
    wpAny (model X.prog X.w) X.A (handleBy (.ref a) X.env hds) (SP X pins D) X.xe s
  | _, _, .nil, s, G, w => down_nil G hs hf tk w
  | _, _, @HdsN.cons _ x n c i ts b₀ suite np pos' hds l hi hln hc hsu r, s, G, w => by
    obtain ⟨b, hb1, hyes, hno⟩ := w
    obtain ⟨oe, vs, he, hz, hd⟩ := G.fl.there
    obtain ⟨nL, nF⟩ := G.off hf
    have S3 := G.here.suite he hd G.na nL nF
    refine wpAny_handleBy_cons (codeAny_handlers_test ?_) (by intro q; cases q)
    have LT : PySem.W.Looks (model X.prog X.w) s.heap (typeOf (.ref a)) cls := fun A Q E s k q => wpAny_typeOf_ref (k _ _ he) (by rw [hz.1]; exact q)
    have LM := PySem.W.exm_one (M := model X.prog X.w) G.here.kIn LT hb1
    have look : ∀ {Q : Value → Shared → Prop} {E : Value → Shared → Prop}, Q c s → wpAny (model X.prog X.w) (X.A.mark (some (.ref a))) (eval (.Name x np) X.env) Q E s := fun {Q E} q => by
      obtain ⟨hg, hdbg, hm | ⟨hm, hv, hnn⟩⟩ := hc
      · exact ld_glob (X := X.suite a ((a, oe) :: (X.pn ++ pins))) S3 hg hm q hdbg
      · exact ld_blt (X := X.suite a ((a, oe) :: (X.pn ++ pins))) S3 hg hm hv q hnn hdbg
    refine look (LM.here ?_)
    cases b with
    | false =>
      show wpAny _ X.A (handleBy (.ref a) X.env hds) _ _ _
      exact down_all hs hf hN tk r G (hno rfl)
    | true =>
      refine codeAny_handlers_suite_as ?_
      refine HandSPX.lands_againZ G.fl fun h4 fl4 up4 => ?_
      have G4 : Down X pins a B cls d σ H sI { s with heap := h4 } := ⟨G.inv, G.nb, G.up.trans up4, fl4, G.na, G.os, G.ag⟩
      exact down_suite G4 hf hN hi hln hsu (hyes rfl a G.na) (fun _ _ q => q)
end
section
variable {X : Cx} {body : List Stmt} {h₀ : ExceptHandler} {hds : List ExceptHandler} {l : List Cl} {pos : Pos} {tb : WX → TS} {Wout : WX}
/-- try: body / except A as n: .. / except B as n: .. -/
theorem ps_tryN (hs : X.stack = X.env :: X.outer) (hf : X.env.frame = some X.env.locals) (hN : X.N.Nodup) (tk : L2N.Takes X Wout)
    (hb : ∀ (W : WX) (pn : List (Addr × Obj)) (xe : Value → Shared → Prop), L2N.Takes (X.tr pn xe) W → PassesOwn (model X.prog X.w) X.A X.env xe → PSs (X.tr pn xe) body (tb W))
    (hh : HdsN X (h₀ :: hds) l) : PS X (.Try body (h₀ :: hds) [] [] pos) (fun D σ H => tb (wN X.K Wout D l) D σ H) := by
  refine ⟨fun pins s σ H D I h => ?_⟩
  have ok := I.ok
  have hfr : X.A.frames = some (X.env :: X.outer) := by rw [ok.frames, hs]
  refine wpAny_Try_except ?_
  have run := (hb (wN X.K Wout D l) (X.pn ++ pins) (fun e s₁ => wpAny (model X.prog X.w) X.A (noteFrame e X.env) (fun _ s₂ => wpAny (model X.prog X.w) X.A (setFlight e none) (fun _ s₃ =>
    wpAny (model X.prog X.w) X.A (handleBy e X.env (h₀ :: hds)) (SP X pins D) X.xe s₃) X.xe s₂) X.xe s₁) (fun u s' xx => ?_) PassesOwn.looking).run [] s σ H D (I.toTry _) h
  · refine wpAny_mono run (fun f s1 hsp => ?_) (fun e s1 he => he)
    cases f with
    | next => obtain ⟨σ', H', J', q⟩ := hsp; exact wpAny_execs_nil ⟨σ', H', J'.ofTry ok, q⟩
    | brk => obtain ⟨σ', H', J', q⟩ := hsp; exact ⟨σ', H', J'.ofTry ok, q⟩
    | cont => obtain ⟨σ', H', J', q⟩ := hsp; exact ⟨σ', H', J'.ofTry ok, q⟩
    | ret u => obtain ⟨v, σ', H', J', r, q⟩ := hsp; exact ⟨v, σ', H', J'.ofTry ok, r, q⟩
  · obtain ⟨a, B, sI, pins', σ', H', cls, d, rfl, J', nb, up, sky, na, os, ag, w⟩ := xx
    have sky' : Sky B (X.env :: X.outer) a (L2N.Zn cls d) X.env.locals s'.heap := by rw [← hs]; exact sky
    show wpAny (model X.prog X.w) X.A (noteFrame (.ref a) X.env) _ _ _
    refine L2N.Sky.land L2N.Zn.steady hfr hf sky' fun h3 fl3 up3 => ?_
    exact down_all hs hf hN tk hh (s := { s' with heap := h3 }) ⟨J'.ofTry ok, nb, up.trans up3, fl3, na, os, ag⟩ w
end
end Ps

/-! Defs that raise; their calls inside a try; defs called while an error is handled. -/
namespace Ps
open PySem PySem.Spec PyProof.Rows L2

/-- what leaves a def that raises: errors whose context is None -/
abbrev CXN (Z : Cz) : CXT := L2N.CX Z.P Z.w
section
variable {P : Program} {w : World} {K : PySem.W.Frag} {mg : Str → Option Value} {base : Heap}
theorem Fun.okN {x qual : Str} {st : Stmt} {f : Addr} {fd : FuncData} {N ps : List Str} {k : Nat} {sp : Sp} {CX : CXT} (F : Fun K x qual st f fd) (S : FnScope N ps (defScope st)) (len : ∀ vs H Q E, sp vs H Q E → vs.length = ps.length)
    (hbody : ∀ (cdv : Value) (A : Around) (outer : List Env) (s : Shared) (H : Hp) (vs : List V) (Q : VK) (E : XK), Room k (A.deeper (envOfC qual (defScope st) s.heap.objs.size f cdv)) → sp vs H Q E →
      ∃ t, PSs (cxOf CX P w K mg base N qual (defScope st) f cdv A outer s H E) (defBody st) t ∧ t { nx := fun _ H' => Q .non H', rt := Q } (start N vs) H) : FnOk P w K mg base CX (k + 1) f fd ps sp := by
  obtain ⟨oc, od, kV, doc, pm, an, cdv, ct, osl, rfl, lk, hcd⟩ := F.ex
  exact fn_of lk hcd S len fun A outer s H vs Q E hr hsp => hbody cdv A outer s H vs Q E hr hsp
theorem Fun.okH {x qual : Str} {st : Stmt} {f : Addr} {fd : FuncData} {N ps : List Str} {k : Nat} {sp : Sp} {CX : CXT} (F : Fun K x qual st f fd) (S : FnScope N ps (defScope st)) (len : ∀ vs H Q E, sp vs H Q E → vs.length = ps.length)
    (hbody : ∀ (cdv : Value) (A : Around) (outer : List Env) (s : Shared) (H : Hp) (vs : List V) (Q : VK) (E : XK) (p : Addr × Obj), L2H.Hot1 A p → L2H.RoomH k (A.deeper (envOfC qual (defScope st) s.heap.objs.size f cdv)) → sp vs H Q E →
      ∃ t, PSs (L2H.cxH CX P w K mg base N qual (defScope st) f cdv A outer s H E p) (defBody st) t ∧ t { nx := fun _ H' => Q .non H', rt := Q } (start N vs) H) : L2H.FnH P w K mg base CX (k + 1) f fd ps sp := by
  obtain ⟨oc, od, kV, doc, pm, an, cdv, ct, osl, rfl, lk, hcd⟩ := F.ex
  exact L2H.fn_ofH lk hcd S len fun A outer s H vs Q E p hot hr hsp => hbody cdv A outer s H vs Q E p hot hr hsp
/-- a def that raises, where it raises nothing -/
theorem okCalm {k : Nat} {f : Addr} {fd : FuncData} {ps : List Str} {sp sp' : Sp} (F : FnOk P w K mg base (L2N.CX P w) k f fd ps sp) (h : ∀ vs H Q E, sp' vs H Q E → sp vs H Q E0) : FnOk P w K mg base CX0 k f fd ps sp' := by
  refine ⟨fun vs H Q E hs => F.len vs H Q E0 (h vs H Q E hs), fun A outer s H args us vs Q E hr e0 hb r hs => ?_⟩
  refine codeAny_mono (F.run A outer s H args us vs Q E0 hr e0 hb r (h _ _ _ _ hs)) fun r s' hq => ?_
  cases r with
  | error e =>
    obtain ⟨_, _, _, _, _, _, _, _, _, _, _, _, z⟩ := hq
    exact z.elim
  | ok fl => cases fl <;> exact hq
end
/-- all errors of the def go out as they are -/
theorem passN {X : Cx} {E : XK} (tk : L2N.Takes X (fun cls d _ H => E cls d H)) : Passes (L2N.CX X.prog X.w) X E := L2N.passes_call tk fun _ _ _ _ h => h
section
variable {Z : Cz} {X : Cx} {CX : CXT} {k : Nat} {C : Addr} {ps : List Str} {sp : Sp} {dvs : List V} {E : L2.St → XK} {x m : Str} {p pos apos : Pos} {e o : Expr} {es : List Expr} {ta : TE} {t : TA}
theorem pe_calS (c : Cal Z CX k x ps dvs sp) (hr : Room k X.A) (hg : Gl X x) (hx : ∀ σ, PassesAt CX X σ (E σ)) (ha : PA X (e :: es) t) (z : InZ Z X := by exact ⟨rfl, rfl, rfl, rfl, rfl⟩)
    (hdb : (x == ("__debug__" : Str)) = false := by decide) (he : starEach (e :: es) X.env = (false, eval e X.env) :: starEach es X.env := by rfl) (hpl : (backTo pos (starEach es X.env)).any (·.1) = false := by rfl) :
    PE X (.Call (.Name x p) (e :: es) [] pos) (tCallSD sp dvs E t) := by
  obtain ⟨f, fd, ds, G, h1, h2, h3, h4⟩ := c
  exact pe_callSD (z.ok G) hr hg (by rw [z.mg]; exact h1) (by rw [z.K]; exact h2) (by rw [z.K]; exact h3) h4 hx ha hdb he hpl
def tMakeS (C : Addr) (sp : Sp) (dvs : List V) (E : L2.St → XK) (t : TA) : TE := fun σ H Q => t σ H fun vs H1 => ∀ x dx, H1 x = none → H1 dx = none → dx ≠ x →
  sp (.ref x :: (vs ++ dvs)) (upd (upd H1 dx (.own x)) x (.ins C dx [])) (fun v H2 => v = .non ∧ Q (.ref x) H2) (E σ)
theorem pe_calCS (c : CalC Z CX k C x ps dvs sp) (hr : Room (k + 1) X.A) (hg : Gl X x) (hx : ∀ σ, PassesAt CX X σ (E σ)) (ha : PA X (e :: es) t) (z : InZ Z X := by exact ⟨rfl, rfl, rfl, rfl, rfl⟩)
    (hdb : (x == ("__debug__" : Str)) = false := by decide) (he : starEach (e :: es) X.env = (false, eval e X.env) :: starEach es X.env := by rfl) (hpl : (backTo pos (starEach es X.env)).any (·.1) = false := by rfl) :
    PE X (.Call (.Name x p) (e :: es) [] pos) (tMakeS C sp dvs E t) := by
  obtain ⟨f, fd, ds, G, M, h2, hb, hd⟩ := c
  have F := z.ok G
  rw [← z.K] at M hb
  refine ⟨fun pins s σ H Q I h => ?_⟩
  refine wpAny_Call_Name_kw (ld_glob I hg (by rw [z.mg]; exact h2) ?_ hdb)
  refine PySem.W.callWith_K (h₀ := X.base) I.ok.mod.kin M.kp (thn (ha.run pos pins s σ H _ I h) fun us s1 ⟨vs, H1, I1, r, q⟩ => ⟨I1.kIn, ?_⟩) he hpl
  have q1 := q (s1.heap.objs.size + 1) s1.heap.objs.size (I1.hok.fresh (Nat.le_succ _)) (I1.hok.fresh (Nat.le_refl _)) (Nat.ne_of_lt (Nat.lt_succ_self _))
  have I2 := Inv.made (C := C) I1
  have r2 : Vals (V.ref (s1.heap.objs.size + 1) :: (vs ++ dvs)) (Value.ref (s1.heap.objs.size + 1) :: (us ++ ds)) := .cons rfl (r.append hd)
  have hl : (Value.ref (s1.heap.objs.size + 1) :: us ++ ds).length = ps.length := r2.length.symm.trans (F.len _ _ _ _ q1)
  have run := F.run _ X.stack _ _ ⟨Value.ref (s1.heap.objs.size + 1) :: us, []⟩ (Value.ref (s1.heap.objs.size + 1) :: (us ++ ds)) _ _ (E σ) (hr.make C us []) (I2.env0.make C us []) (hb _ (Value.ref (s1.heap.objs.size + 1) :: us) I2.kIn hl) r2 q1
  refine wpAny_call (make_map (f := f) I1.kIn M.makes M.init (beq_iff_eq.mp M.fn) (codeAny_mono run fun rr s' hq' => ?_))
  cases rr with
  | error e => exact hx σ pins _ _ e s' I2 hq'
  | ok fl =>
    cases fl with
    | ret u =>
      obtain ⟨v, H', I3, rv, ev, q3⟩ := I2.after hq'
      subst ev
      exact ⟨rv, ⟨V.ref (s1.heap.objs.size + 1), H', I3, rfl, q3⟩⟩
    | next => exact False.elim hq'
    | brk => exact False.elim hq'
    | cont => exact False.elim hq'
def tMethS' (C : Addr) (m : Str) (sp : Sp) (dvs : List V) (E : L2.St → XK) (ta : TE) (t : TA) : TE := fun σ H Q => ta σ H fun x H1 => ∃ a dx fs, x = .ref a ∧ H1 a = some (.ins C dx fs) ∧ fs.lookup m = none ∧
  t σ H1 fun vs H2 => sp (x :: (vs ++ dvs)) H2 Q (E σ)
theorem pe_calMS {pl : Sem Bool} (c : CalM Z CX k C m ps dvs sp) (hr : Room k X.A) (hx : ∀ σ, PassesAt CX X σ (E σ)) (he : PE X o ta) (ha : PA X (e :: es) t) (z : InZ Z X := by exact ⟨rfl, rfl, rfl, rfl, rfl⟩)
    (hst : starEach (e :: es) X.env = (false, eval e X.env) :: starEach es X.env := by rfl) (hpl : (backTo pos (starEach es X.env)).any (·.1) = false := by rfl)
    (ht : eval (.Call (.Attribute o m apos) (e :: es) [] pos) X.env = (do
      let ov ← eval o X.env
      standAt apos.atName
      let (f, first) ← holding [ov] (getMethod ov m pl)
      callWith pos f first (backTo pos (starEach (e :: es) X.env)) (backToKw pos (keywordEach [] X.env))) := by rfl) :
    PE X (.Call (.Attribute o m apos) (e :: es) [] pos) (tMethS' C m sp dvs E ta t) := by
  obtain ⟨f, fd, ds, G, hm, cl, hb, hd⟩ := c
  rw [← z.K] at hm cl hb
  refine ⟨fun pins s σ H Q I h => ?_⟩
  refine PySem.W.methodCall_KW (pl := pl) (thn (he.run pins s σ H _ I h) fun u s1 ⟨x, H1, I1, rx, a, dx, fs, ex, ea, l, q⟩ => ?_) ht
  subst ex
  obtain rfl : u = Value.ref a := rx
  refine getmeth_ok I1 ea cl hm l ?_
  refine PySem.W.callWith_K (first := [.ref a]) (h₀ := X.base) I.ok.mod.kin hm.kp (thn (ha.run pos pins s1 σ H1 _ I1 q) fun us s2 ⟨vs, H2, I2, r, q2⟩ => ⟨I2.kIn, ?_⟩) hst hpl
  exact run_fnSD (us := .ref a :: us) (vs := .ref a :: vs) (z.ok G) hr hb hd (hx σ) I2 (.cons rfl r) q2
end
/-! ### while an error is handled -/
/-- a def, called so -/
def CalH (Z : Cz) (k : Nat) (x : Str) (ps : List Str) (sp : Sp) : Prop := ∃ f fd, L2H.FnH Z.P Z.w Z.K Z.mg Z.base CX0 k f fd ps sp ∧ Z.mg x = some (.ref f) ∧ PySem.W.keepIn Z.K (.ref f) = true ∧ Binds Z.K fd ps []
def CalMH (Z : Cz) (k : Nat) (C : Addr) (m : Str) (ps : List Str) (sp : Sp) : Prop := ∃ f fd, L2H.FnH Z.P Z.w Z.K Z.mg Z.base CX0 k f fd ps sp ∧ Meth Z.K C m f ∧ Cls Z.K C ∧ Binds Z.K fd ps []
def CalSH (Z : Cz) (k : Nat) (C : Addr) (m : Str) (ps : List Str) (sp : Sp) : Prop := ∃ f fd, L2H.FnH Z.P Z.w Z.K Z.mg Z.base CX0 k f fd ps sp ∧ OwnOp Z.K C f m ∧ Binds Z.K fd ps []
theorem passAt0 {X : Cx} (σ : L2.St) : PassesAt CX0 X σ E0 := fun _ _ _ _ _ _ h => h.elim
section
variable {Z : Cz} {X : Cx} {k : Nat} {C : Addr} {ps : List Str} {sp : Sp} {x m : Str} {p pos apos : Pos} {e o : Expr} {es : List Expr} {ta : TE} {t : TA}
theorem okHz {f : Addr} {fd : FuncData} (z : InZ Z X) (G : L2H.FnH Z.P Z.w Z.K Z.mg Z.base CX0 k f fd ps sp) : L2H.FnH X.prog X.w X.K X.mg X.base CX0 k f fd ps sp := by
  obtain ⟨h1, h2, h3, h4, h5⟩ := z
  rw [h1, h2, h3, h4, h5]
  exact G
theorem pe_calH (c : CalH Z k x ps sp) (hr : L2H.RoomH k X.A) (hc : L2H.HotC X) (hg : Gl X x) (ha : PA X (e :: es) t) (z : InZ Z X := by exact ⟨rfl, rfl, rfl, rfl, rfl⟩)
    (hdb : (x == ("__debug__" : Str)) = false := by decide) (he : starEach (e :: es) X.env = (false, eval e X.env) :: starEach es X.env := by rfl) (hpl : (backTo pos (starEach es X.env)).any (·.1) = false := by rfl) :
    PE X (.Call (.Name x p) (e :: es) [] pos) (tCallS sp (fun _ => E0) t) := by
  obtain ⟨f, fd, G, h1, h2, h3⟩ := c
  exact L2H.pe_callH (okHz z G) hr hc hg (by rw [z.mg]; exact h1) (by rw [z.K]; exact h2) (by rw [z.K]; exact h3) (fun σ => passAt0 σ) ha hdb he hpl
theorem pe_calMH {pl : Sem Bool} (c : CalMH Z k C m ps sp) (hr : L2H.RoomH k X.A) (hc : L2H.HotC X) (he : PE X o ta) (ha : PA X (e :: es) t) (z : InZ Z X := by exact ⟨rfl, rfl, rfl, rfl, rfl⟩)
    (hst : starEach (e :: es) X.env = (false, eval e X.env) :: starEach es X.env := by rfl) (hpl : (backTo pos (starEach es X.env)).any (·.1) = false := by rfl)
    (ht : eval (.Call (.Attribute o m apos) (e :: es) [] pos) X.env = (do
      let ov ← eval o X.env
      standAt apos.atName
      let (f, first) ← holding [ov] (getMethod ov m pl)
      callWith pos f first (backTo pos (starEach (e :: es) X.env)) (backToKw pos (keywordEach [] X.env))) := by rfl) :
    PE X (.Call (.Attribute o m apos) (e :: es) [] pos) (L2H.tMethH C m sp (fun _ => E0) ta t) := by
  obtain ⟨f, fd, G, h1, h2, h3⟩ := c
  exact L2H.pe_methH (pl := pl) he (by rw [z.K]; exact h2) (by rw [z.K]; exact h1) (okHz z G) hr hc (by rw [z.K]; exact h3) (fun σ => passAt0 σ) ha hst hpl ht
theorem op_cmpH {op : CmpOp} (c : CalSH Z k C (cmpInfo op).2.1 ps sp) (hr : L2H.RoomH k X.A) (hc : L2H.HotC X) (z : InZ Z X := by exact ⟨rfl, rfl, rfl, rfl, rfl⟩) (hop : ∀ a b, compareOp op a b = richCompare op a b := by intro _ _; rfl) : OpR X (compareOp op) (rCmp Z.K C sp E0) := by
  obtain ⟨f, fd, G, h1, h2⟩ := c
  have z' := z
  obtain ⟨e1, e2, e3, e4, e5⟩ := z
  intro pins s σ H x y v u Q I rx ry h
  obtain ⟨⟨a, dx, fs, rfl, ha⟩, ⟨t, ty, ht⟩, h⟩ := h
  cases (show v = Value.ref a from rx)
  rw [← e3] at ty ht h1 h2
  obtain ⟨mA, J0, _⟩ := ins_get I.hok ha
  obtain ⟨od, J, _⟩ := J0.look
  obtain ⟨P, Zk, p, _⟩ := kit_of I ry ty
  obtain ⟨m, hF⟩ := I.fr
  rw [hop]
  refine PySem.W.cmp_K (by have := hr.un; omega) hF I.ok.mod.kin J (Zk.ty (model X.prog X.w) s.heap I.kIn p) ht h1.fn h1.isf ?_
  exact wpAny_mono (L2H.run_fnH (E := fun _ => E0) (us := [.ref a, u]) (vs := [.ref a, y]) (okHz z' G) hr hc h2 (passAt0 σ) I (.cons rfl (.cons ry .nil)) h) (fun _ _ z => cmpBack z) fun _ _ z => z
/-- in a suite -/
theorem hotS {a : Addr} {oe : Obj} {cls : Value} {d : Option Addr} {pn : List (Addr × Obj)} (hz : L2N.Zn cls d oe) (hf : ∃ vs, oe.data = .fields vs) : L2H.HotC (X.suite a ((a, oe) :: pn)) := by
  obtain ⟨vs, hd⟩ := hf
  exact ⟨(a, oe), ⟨rfl, vs, hd, hz.2.2 vs hd⟩, List.mem_cons_self⟩
theorem roomS {a : Addr} {pn : List (Addr × Obj)} (hr : Room k X.A) : L2H.RoomH k (X.suite a pn).A := ⟨hr.dp, hr.un⟩
/-- in a def that was called so -/
theorem hotD {CX : CXT} {P : Program} {w : World} {K : PySem.W.Frag} {mg : Str → Option Value} {base : Heap} {N : List Str} {qual : Str} {scope : Scope} {f : Addr} {cd : Value} {A : Around} {outer : List Env} {s : Shared} {H : Hp} {E : XK} {q : Addr × Obj} (h : L2H.Hot1 A q) :
    L2H.HotC (L2H.cxH CX P w K mg base N qual scope f cd A outer s H E q) := ⟨q, h, List.mem_cons_self⟩
end
end Ps

/-! Defs that are called where no repr is running (Around.guards is the empty list): they may tell the repr of lists, tuples, dicts. -/
namespace Ps
open PySem PySem.Spec PyProof.Rows L2

structure FnG (P : Program) (w : World) (K : PySem.W.Frag) (mg : Str → Option Value) (base : Heap) (CX : CXT) (k : Nat) (f : Addr) (fd : FuncData) (ps : List Str) (sp : Sp) : Prop where
  len : ∀ vs H Q E, sp vs H Q E → vs.length = ps.length
  run : ∀ (A : Around) (outer : List Env) (s : Shared) (H : Hp) (args : Args) (us : List Value) (vs : List V) (Q : VK) (E : XK), Room k A → A.guards = some [] → Env0 P w K mg base A outer s H → BindsTo s fd args (ps.zip us) → Vals vs us → sp vs H Q E →
    codeAny (model P w) A (.call (.ref f) args) (CR CX outer P w H s Q E) s
theorem guards_deeper (A : Around) (env : Env) : (A.deeper env).guards = A.guards := rfl
section
variable {P : Program} {w : World} {K : PySem.W.Frag} {mg : Str → Option Value} {base : Heap}
theorem Fun.okG {x qual : Str} {st : Stmt} {f : Addr} {fd : FuncData} {N ps : List Str} {k : Nat} {sp : Sp} {CX : CXT} (F : Fun K x qual st f fd) (S : FnScope N ps (defScope st)) (len : ∀ vs H Q E, sp vs H Q E → vs.length = ps.length)
    (hbody : ∀ (cdv : Value) (A : Around) (outer : List Env) (s : Shared) (H : Hp) (vs : List V) (Q : VK) (E : XK), Room k (A.deeper (envOfC qual (defScope st) s.heap.objs.size f cdv)) → A.guards = some [] → sp vs H Q E →
      ∃ t, PSs (cxOf CX P w K mg base N qual (defScope st) f cdv A outer s H E) (defBody st) t ∧ t { nx := fun _ H' => Q .non H', rt := Q } (start N vs) H) : FnG P w K mg base CX (k + 1) f fd ps sp := by
  obtain ⟨oc, od, kV, doc, pm, an, cdv, ct, osl, rfl, lk, hcd⟩ := F.ex
  refine ⟨len, fun A outer s H args us vs Q E hr hg e0 hb r hsp => ?_⟩
  have KX : K.In s.heap := e0.mod.kin.keeps fun b o e => (e0.bs b o e).1
  have hkind : ∀ y ∈ ps.zip us, (defScope st).names.lookup y.1 = some .local ∨ ((defScope st).names.lookup y.1 = some .cell ∧ ((cellsFrom (s.heap.objs.size + 1) (defScope st).names []).lookup y.1).isSome = true) := fun y hy =>
    (S.par y.1 (List.of_mem_zip (show (y.1, y.2) ∈ ps.zip us from hy)).1).imp id fun q => ⟨q, PySem.W.cellsFrom_some _ _ _ (.inl q)⟩
  obtain ⟨t, ht, hq⟩ := hbody cdv A outer s H vs Q E (hr.deeper _) hg hsp
  refine codeAny_call_function hr.depth (KX _ _ lk) rfl S.co S.gen rfl (PySem.W.codeRec_of KX hcd) (hb _ _ _ _ (wpAny_newFunctionEnv_cells S.kind hkind fun env he s1 x => ?_))
  subst he
  have lim : s.heap.NoLimit := e0.mod.nolimit.keeps fun b o e => (e0.bs b o e).1
  refine ⟨lim.keeps x.toInCall.keep, codeAny_func ?_⟩
  have I := inv_start (CX := CX) (E := E) S hr.hd e0 (len _ _ _ _ hsp) r x
  refine wpAny_mono (ht.run [] s1 _ H _ I hq) (fun fl s' hs => ?_) fun e s' hs => hs
  cases fl with
  | ret u => obtain ⟨v, σ', H', J, rv, q⟩ := hs; exact ⟨v, H', J.os, J.bare, J.base, J.hok, rv, q⟩
  | next => obtain ⟨σ', H', J, q⟩ := hs; exact ⟨V.non, H', J.os, J.bare, J.base, J.hok, rfl, q⟩
  | brk => obtain ⟨_, _, _, q⟩ := hs; exact False.elim q
  | cont => obtain ⟨_, _, _, q⟩ := hs; exact False.elim q
theorem FnOk.toG {CX : CXT} {k : Nat} {f : Addr} {fd : FuncData} {ps : List Str} {sp : Sp} (F : FnOk P w K mg base CX k f fd ps sp) : FnG P w K mg base CX k f fd ps sp :=
  ⟨F.len, fun A outer s H args us vs Q E hr _ e0 hb r h => F.run A outer s H args us vs Q E hr e0 hb r h⟩
end
/-- such a def -/
def CalG (Z : Cz) (CX : CXT) (k : Nat) (x : Str) (ps : List Str) (sp : Sp) : Prop := ∃ f fd, FnG Z.P Z.w Z.K Z.mg Z.base CX k f fd ps sp ∧ Z.mg x = some (.ref f) ∧ PySem.W.keepIn Z.K (.ref f) = true ∧ Binds Z.K fd ps []
section
variable {Z : Cz} {X : Cx} {CX : CXT} {k : Nat} {ps : List Str} {sp : Sp} {x : Str} {p pos : Pos} {e : Expr} {es : List Expr} {t : TA} {E : XK}
theorem pe_calG (c : CalG Z CX k x ps sp) (hr : Room k X.A) (hgd : X.A.guards = some []) (hg : Gl X x) (hx : Passes CX X E) (ha : PA X (e :: es) t) (z : InZ Z X := by exact ⟨rfl, rfl, rfl, rfl, rfl⟩)
    (hdb : (x == ("__debug__" : Str)) = false := by decide) (he : starEach (e :: es) X.env = (false, eval e X.env) :: starEach es X.env := by rfl) (hpl : (backTo pos (starEach es X.env)).any (·.1) = false := by rfl) :
    PE X (.Call (.Name x p) (e :: es) [] pos) (tCall sp [] E t) := by
  obtain ⟨f, fd, G, h1, h2, h3⟩ := c
  obtain ⟨e1, e2, e3, e4, e5⟩ := z
  rw [← e1, ← e2, ← e3, ← e4, ← e5] at G
  rw [← e4] at h1
  rw [← e3] at h2 h3
  refine ⟨fun pins s σ H Q I h => ?_⟩
  refine wpAny_Call_Name_kw (ld_glob I hg h1 ?_ hdb)
  refine PySem.W.callWith_K (h₀ := X.base) I.ok.mod.kin h2 (thn (ha.run pos pins s σ H _ I h) fun us s1 ⟨vs, H1, I1, r, q⟩ => ⟨I1.kIn, ?_⟩) he hpl
  have q : sp (vs ++ []) H1 Q E := q
  rw [List.append_nil] at q
  have hl : us.length = ps.length := r.length.symm.trans (G.len _ _ _ _ q)
  have b := h3 s1 us I1.kIn (by rw [List.append_nil]; exact hl)
  rw [List.append_nil] at b
  refine wpAny_call (codeAny_mono (G.run X.A X.stack s1 H1 ⟨us, []⟩ us vs Q E hr hgd I1.env0 b r q) fun rr s' hq => ?_)
  cases rr with
  | error e => exact hx pins σ H1 s1 e s' I1 hq
  | ok fl =>
    cases fl with
    | ret u => exact I1.after hq
    | next => exact False.elim hq
    | brk => exact False.elim hq
    | cont => exact False.elim hq
end
/-! ### repr -/
section
variable {X : Cx}
theorem reads_flat {h : Heap} {v : Value} {d : PyData} {as : List Addr} (r : Reads h v d as) : (∃ a, v = .ref a) ∨ ∀ a, v ≠ .ref a := by
  cases v <;> first | exact .inl ⟨_, rfl⟩ | exact .inr fun a z => nomatch z
def rRepr (K : PySem.W.Frag) : List V → Hp → VK → Prop := fun xs H Q => ∃ (v : V) (d : PyData), xs = [v] ∧ Dp K H v d ∧ d.showable = true ∧ d.hasDict = false ∧ d.depth ≤ 60 ∧ d.shown.length ≤ sizeLine ∧ Q (.str d.shown) H
theorem call_repr (hg : X.A.guards = some []) (hu : X.A.units + 64 < cLine) : CallR X (.builtin "repr") (rRepr X.K) := by
  intro pins s σ H xs us Q I r h
  obtain ⟨v, d, rfl, hd, hs, hn, hdp, hz, q⟩ := h
  obtain ⟨u, rfl, r1⟩ := vals1 r
  obtain ⟨as, rd⟩ := Dp.reads I d v u hd r1
  rcases reads_flat rd with ⟨a, rfl⟩ | hf
  · exact repr_of_reads' rd hs (PyData.noDict_hsm hn) hg (by omega) (fun _ _ e => e) (fun h' tu tk k => ⟨.str d.shown, H, I.kept (t' := tk) k, ⟨_, rfl⟩, q⟩) hz
  · cases hd with
    | non => cases r1; exact PySem.P.repr_of_none ⟨.str _, H, I.tok _, ⟨_, rfl⟩, q⟩
    | bl b => cases r1; exact PySem.P.repr_of_bool ⟨.str _, H, I.tok _, ⟨_, rfl⟩, q⟩
    | int i => obtain ⟨t, rfl⟩ := r1; exact PySem.P.repr_of_int (of_decide_eq_true hs) ⟨.str _, H, I.tok _, ⟨_, rfl⟩, q⟩
    | str x => obtain ⟨t, rfl⟩ := r1; exact PySem.P.repr_of_str ⟨.str _, H, I.tok _, ⟨_, rfl⟩, q⟩ hz
    | lst _ _ => cases r1; exact absurd rfl (hf _)
    | tup _ _ => cases r1; exact absurd rfl (hf _)
end
/-! ### the end of a law that is called so -/
section
variable {P : Program} {w : World} {K : PySem.W.Frag} {mg mb : Str → Option Value} {CX : CXT} {k : Nat} {fa a : Addr} {fd : FuncData} {x : Str} {sp : Sp} {s : Shared}
/-- the call over an abstract heap that tracks at most the script -/
theorem call_from {H : Hp} (KX : K.In s.heap) (hns : s.heap.Ns mainGlobals mg) (hb : s.heap.Ns builtinsNs mb) (hbb : ∀ x : Str, x ≠ "__name__" → mb x = bootBuiltins x) (hlim : s.heap.NoLimit) (hg : s.gens = #[])
    (hr : Room k callerA) (F : ∀ base : Heap, K.In base → base.Ns mainGlobals mg → FnG P w K mg base CX k fa fd [x] sp) (hbind : ∀ (s : Shared) (u : Value), BindsTo s fd ⟨[u], []⟩ [(x, u)])
    (hsp : sp [.ref a] H (fun v _ => v = .bl true) fun _ _ _ => False) (hCX : ∀ H e s', CX [] H s (fun _ _ _ => False) e s' → False)
    (hO : Only H) (hok : HOk P w H s.heap) (hK : ∀ b o, K.lookup b = some o → H b = none) (hD : ∀ b o es ep, s.heap.get? b = some o → o.data = .dict es ep → H b = none) :
    codeAny (model P w) callerA (.call (.ref fa) ⟨[.ref a], []⟩) (fun r s' => r = .ok (.ret (.bool true)) ∧ OldK s.heap s'.heap ∧ s'.os = s.os ∧ AllBare s'.gens) s := by
  have nsK : ∀ {b : Addr} {m : Str → Option Value}, s.heap.Ns b m → (hidT s.heap H).Ns b m := fun {b m} ⟨o, es, ep, e, d, r⟩ => ⟨o, es, ep, hidT_get e (hD b o es ep e d), d, r⟩
  have hKb : K.In (hidT s.heap H) := fun b o e => hidT_get (KX b o e) (hK b o e)
  obtain ⟨mc, l1, l2⟩ := hlim
  have e0 : Env0 P w K mg (hidT s.heap H) callerA [] s H :=
    ⟨rfl, ⟨hKb, nsK hns, ⟨mb, nsK hb, hbb⟩, ⟨mc, nsK l1, l2⟩⟩, fun b o e => of_hidT e, Nat.le_of_eq (hidT_size _ _), trivial, fun b hb => absurd (show b ∈ ([] : List Addr) from hb) (by simp), hok, .of_eq hg⟩
  refine codeAny_mono ((F _ hKb (nsK hns)).run callerA [] s H ⟨[.ref a], []⟩ [.ref a] [.ref a] _ _ hr rfl e0 (hbind s (.ref a)) (.cons rfl .nil) hsp) fun r s' h => ?_
  cases r with
  | error e => exact (hCX H e s' h).elim
  | ok fl =>
    cases fl with
    | next => exact False.elim h
    | brk => exact False.elim h
    | cont => exact False.elim h
    | ret u =>
      obtain ⟨v, H', os, bare, un, hok', r', q⟩ := h
      obtain rfl : v = .bl true := q
      obtain rfl : u = Value.bool true := r'
      refine ⟨rfl, OldK.of_keep fun b o e => ?_, os, bare⟩
      rcases hO b with z | ⟨ob, xs, z⟩
      · exact un.keep b o e z (fun y => absurd (show b ∈ ([] : List Addr) from y) (by simp)) (by simp)
      · obtain ⟨e1, _⟩ := hok b _ z
        obtain ⟨e2, _⟩ := hok' b _ (un.frzs b ob _ z)
        exact (Option.some.inj (e1.symm.trans e)) ▸ e2
end
theorem walk_G {l : PySem.W.OpenLaw} {n k : Nat} {q : Program} {loose : List Str} {XP : (Str → Option Value) → Heap → Prop} {YP : World → Heap → Prop} {d : DefRec} {CX : CXT} {x : Str}
    (hn : l.most = some n) (hn2 : n ≤ sizeLine) (hdf : d.params.defaults = []) (hr : Room k callerA)
    (F : ∀ (w : World) (mg : Str → Option Value) (fa : Addr) (h : Heap), YP w h → h.Ns mainGlobals mg → mg d.name = some (.ref fa) →
      ∃ (K : PySem.W.Frag) (fd : FuncData) (sp : Sp), K.In h ∧ (∀ (s : Shared) (u : Value), BindsTo s fd ⟨[u], []⟩ [(x, u)]) ∧
        (∀ (H : Hp) (a : Addr) (ns : List Int), ns.length ≤ n → Only H → SqL K H a (ns.map V.int) → sp [.ref a] H (fun v _ => v = .bl true) fun _ _ _ => False) ∧
        ∀ base : Heap, K.In base → base.Ns mainGlobals mg → FnG l.prog w K mg base CX k fa fd [x] sp)
    (hCX : ∀ (H : Hp) (s : Shared) (e : Value) (s' : Shared), CX [] H s (fun _ _ _ => False) e s' → False) :
    PySem.W.WalkO q loose XP YP l.row.toRowW d [] (fun f vs => PySem.call f vs) := by
  refine Att.attach_call hn hdf fun w s₀ s₁ mg mb fa o pm cd doc a vs ns G Y ho hd hcd hmg hobj hints hlen hg => ?_
  obtain ⟨K, fd, sp, KX, hb, hsp, hF⟩ := F w mg fa _ Y G.T.g hmg
  have rv := vals_ints hints
  have hsz : ns.length ≤ sizeLine := Nat.le_trans hlen hn2
  have noD : ∀ b o es ep, s₁.heap.get? b = some o → o.data = .dict es ep → b ≠ a := fun b o es ep e d z => by
    subst z
    rw [hobj] at e
    cases e
    exact nomatch (show Data.seq vs.toArray _ = Data.dict es ep from d)
  cases hk : K.lookup a with
  | some ob =>
    have e := KX a ob hk
    rw [hobj] at e
    cases e
    have hS : SqL K (fun _ => none) a (ns.map V.int) := .inr ⟨_, vs.toArray, _, hk, rfl, rfl, rfl, by rw [List.size_toArray, hints.length]; exact hsz, by simpa using rv⟩
    exact call_from KX G.T.g G.T.b G.T.builtins G.T.nolimit hg hr hF hb (hsp _ a ns hlen (fun _ => .inl rfl) hS) (fun H e s' => hCX H s₁ e s') (fun _ => .inl rfl) (fun b u z => by have z' : (none : Option HO) = some u := z; cases z') (fun _ _ _ => rfl) (fun _ _ _ _ _ _ => rfl)
  | none =>
    have at_ : ∀ b, (if b = a then some (HO.frz { cls := .type "list", data := .seq vs.toArray } (.lst (ns.map V.int))) else none) = none ∨ b = a := fun b => by
      by_cases h : b = a
      · exact .inr h
      · exact .inl (if_neg h)
    have hO : Only (fun b => if b = a then some (HO.frz { cls := .type "list", data := .seq vs.toArray } (.lst (ns.map V.int))) else none) := fun b => by
      by_cases h : b = a
      · exact .inr ⟨_, _, if_pos h⟩
      · exact .inl (if_neg h)
    refine call_from KX G.T.g G.T.b G.T.builtins G.T.nolimit hg hr hF hb (hsp _ a ns hlen hO (.inl (.inr ⟨{ cls := .type "list", data := .seq vs.toArray }, if_pos rfl⟩))) (fun H e s' => hCX H s₁ e s') hO (fun b u z => ?_) (fun b o e => ?_) (fun b o es ep e d => if_neg (noD b o es ep e d))
    · by_cases h : b = a
      · subst h
        cases (if_pos rfl).symm.trans z
        exact ⟨hobj, by rw [List.length_map]; exact hsz, vs, _, rv, hobj⟩
      · cases (if_neg h).symm.trans z
    · refine if_neg fun z => ?_
      subst z
      rw [hk] at e
      cases e
end Ps

/-! Words of laws that raise and tell. -/
namespace Ps
open PySem PySem.Spec PyProof.Rows PySem.W L2

theorem Same.tup {K : Frag} {H H' : Hp} {a : Addr} {xs : List V} (e : Same H H') (h : SqT K H a xs) : SqT K H' a xs := h.ext (by exact e)
theorem cxUpN {P : Program} {w : World} : StX.CXUp (L2N.CX P w) := by
  rintro outer s H s2 H2 E e s' un kp ho ⟨a, B, H', cls, d, ea, fl, hok, ub, na, os, ag, he⟩
  have fr : ∀ b o, s.heap.get? b = some o → H b = none → H2 b = none := fun b o q n => un.free b o q n (by simp)
  have ub' : UB (frs outer) H H' s.heap B s'.heap :=
    { keep := fun b o q n hb => ub.keep b o (kp b o q) (fr b o q n) hb, slot := fun b o q hb => ub.slot b o (kp b o q) hb, free := fun b o q n => ub.free b o (kp b o q) (fr b o q n), there := fun b o q hb => ub.there b o (kp b o q) hb,
      tups := fun b xs q => ub.tups b xs (un.tups b xs q), frzs := fun b o xs q => ub.frzs b o xs (un.frzs b o xs q),
      tbls := fun b ps q => by
        obtain ⟨m1, e1⟩ := un.tbls b ps q
        obtain ⟨m2, e2⟩ := ub.tbls b _ e1
        exact ⟨m1 ++ m2, by rw [e2, Array.append_assoc]⟩ }
  exact ⟨a, B, H', cls, d, ea, fl, hok, ub', na, os.trans ho, ag, he⟩
theorem pe_never {X : Cx} {e : Expr} : PE X e (fun _ _ _ => False) := ⟨fun _ _ _ _ _ _ h => h.elim⟩
mutual
theorem Dp.mono {K : Frag} {H H' : Hp} (e : Same H H') : ∀ {v : V} {d : PyData}, Dp K H v d → Dp K H' v d
  | _, _, .non => .non
  | _, _, .bl b => .bl b
  | _, _, .int i => .int i
  | _, _, .str x => .str x
  | _, _, .lst h a => .lst (e.seq h) (DpAll.mono e a)
  | _, _, .tup h a => .tup (Same.tup e h) (DpAll.mono e a)
theorem DpAll.mono {K : Frag} {H H' : Hp} (e : Same H H') : ∀ {vs : List V} {ds : List PyData}, DpAll K H vs ds → DpAll K H' vs ds
  | _, _, .nil => .nil
  | _, _, .cons h a => .cons (Dp.mono e h) (DpAll.mono e a)
end
/-- data whose repr is told -/
structure Rp (d : PyData) : Prop where
  show_ : d.showable = true
  nod : d.hasDict = false
  dep : d.depth ≤ 50
  len : d.shown.length ≤ 2000
theorem Rp.d60 {d : PyData} (h : Rp d) : d.depth ≤ 60 := Nat.le_trans h.dep (by decide)
theorem Rp.sz {d : PyData} (h : Rp d) : d.shown.length ≤ sizeLine := Nat.le_trans h.len (Nat.le_of_lt (small1000' (by decide)))
theorem takesN0 {X : Cx} : L2N.Takes X (fun _ _ _ _ => False) := fun _ _ x => by
  obtain ⟨_, _, _, _, _, _, _, _, _, _, _, _, _, _, _, _, z⟩ := x
  exact z.elim
theorem lookup_one {fl : Str} {v : V} : List.lookup fl [(fl, v)] = some v := by simp [List.lookup]
def rpB (d : PyData) : Bool := d.showable && (!d.hasDict && (decide (d.depth ≤ 50) && decide (d.shown.length ≤ 2000)))
theorem rpB_ok {d : PyData} (h : rpB d = true) : Rp d := by
  unfold rpB at h
  simp only [Bool.and_eq_true, Bool.not_eq_true', decide_eq_true_eq] at h
  exact ⟨h.1, h.2.1, h.2.2.1, h.2.2.2⟩
/-- an error of the class at C with the field fl is raised -/
def Rz (C : Addr) (fl : Str) (v : V) (H : Hp) (E : XK) : Prop := ∀ d H', Same H H' → H d = none → H' d = some (.xd [(fl, v)]) → E (.ref C) (some d) H'
theorem Rz.later {C : Addr} {fl : Str} {v : V} {H H1 : Hp} {E : XK} (h : Rz C fl v H E) (e : Same H H1) : Rz C fl v H1 E := fun d H' e' hd hx => h d H' (e.trans e') (e.free hd) hx
theorem Rz.now {C : Addr} {fl : Str} {v : V} {H : Hp} {E : XK} (h : Rz C fl v H E) : ∀ d, H d = none → E (.ref C) (some d) (L2.upd H d (.xd [(fl, v)])) := fun d hd => h d _ (Same.upd hd) hd upd_same
/-- a def called by its address -/
theorem FnOk.toR {P : Program} {w : World} {K : Frag} {mg : Str → Option Value} {base : Heap} {CX : CXT} {k : Nat} {f : Addr} {fd : FuncData} {ps : List Str} {sp : Sp} (F : FnOk P w K mg base CX k f fd ps sp) (hb : Binds K fd ps []) : FnR P w K mg base CX k f sp := by
  intro A outer s H us vs Q E hr e0 r h
  have hl : (us ++ []).length = ps.length := by rw [List.append_nil, ← r.length]; exact F.len _ _ _ _ h
  have hb' := hb s us (fun b o e => (e0.bs b o (e0.mod.kin b o e)).1) hl
  rw [List.append_nil] at hb'
  exact F.run A outer s H ⟨us, []⟩ us vs Q E hr e0 hb' r h
end Ps

/-! Own errors as values. -/
namespace Ps
open PySem PySem.W PySem.Calls PyProof.Rows PySem.HandSPX He
section
variable {prog : Program} {w : World} {M : Model} {A : Around} {E : Value → Shared → Prop} {R : Result → Shared → Prop} {h : Heap} {g : Array GenState} {d : Drawn} {t : Nat} {os : OsState}
variable {nm q : Str} {C N : Addr} {bs bm bmB : List Value} {hdct : Bool} {sn : List Str} {sub : List Value} {ab : Bool} {col : Option Bool} {dd : Option Addr} {k0 k1 k2 k3 k5 : Option Value} {B newId initId : String} {kx : Str} {kv : Value}
theorem check_new_kw (F : ExcBaseFacts B newId initId bmB) (hT : ∀ X : String, bm.contains (.type X) = bmB.contains (.type X)) {Q : Unit → Shared → Prop}
    (hC : h.get? C = some (excClassObj nm q C N bs bm hdct sn sub ab col dd k0 k1 k2 k3 k5 newId)) (hq : Q () ⟨h, g, d, t, os⟩) : wpAny M A (checkBuiltinCall newId ⟨[.ref C], [(kx, kv)]⟩) Q E ⟨h, g, d, t, os⟩ := by
  have hcont : (Value.ref C :: bm).contains (.type B) = true := by rw [List.contains_cons, hT, F.hasB, Bool.or_true]
  have hstar := F.noStar
  simp only [checkBuiltinCall, F.newKind, F.newSplit, F.newRow]
  repeat (first | refine wpAny_loadPart_at hC ?_ | (refine wpAny_isSubtype_exc hC ?_; rw [hcont]) | refine wpAny_staticBase_exc hC ?_ | refine wpAny_madeBy_exc hC ?_ | simp only [bne_self_eq_false, Bool.false_eq_true, if_false] | wp_step)
  exact hq
theorem new_kw (F : ExcBaseFacts B newId initId bmB) (hT : ∀ X : String, bm.contains (.type X) = bmB.contains (.type X))
    (hC : h.get? C = some (excClassObj nm q C N bs bm hdct sn sub ab col dd k0 k1 k2 k3 k5 newId))
    (hq : R (.ok (.ret (.ref (h.objs.size + 1)))) ⟨(h.push { cls := .type "tuple", data := .seq #[] }).push
      { cls := .ref C, data := .fields #[.ref h.objs.size, .none, .none, .none, .bool false, .none] }, g, d, t, os⟩) :
    codeAny (model prog w) A (.builtin newId ⟨[.ref C], [(kx, kv)]⟩) R ⟨h, g, d, t, os⟩ := by
  have hends := F.ends
  have hcB : (Value.ref C :: bm).contains (.type B) = true := by rw [List.contains_cons, hT, F.hasB, Bool.or_true]
  have hcA : (Value.ref C :: bm).contains (.type "AttributeError") = false := by rw [List.contains_cons, hT, F.noAttr]; rfl
  have hcN : (Value.ref C :: bm).contains (.type "NameError") = false := by rw [List.contains_cons, hT, F.noName]; rfl
  refine codeAny_builtinAt F.entry ?_
  unfold Builtin.«BaseException.__new__»
  refine PySem.wpAt_bind ?_
  show PySem.wpAt _ _ _ (stack >>= _) _ _ _
  refine PySem.wpAt_bind (PySem.wpAt_stack fun p below => PySem.wpAt_of_wpAny ?_)
  wp_walk
  refine PySem.wpAt_of_wpAny ?_
  rw [F.owner]
  repeat (first | with_reducible refine wpAny_madeHere_exc F.canon hC ?_ | with_reducible refine wpAny_loadPart_at hC ?_ | (with_reducible refine wpAny_isSubtype_exc hC ?_; first | rw [hcB] | rw [hcA] | rw [hcN]) | wp_step)
  show R _ _
  rw [Heap.size_push]
  exact hq
theorem type_call_kw (F : ExcBaseFacts B newId initId bmB) (hT : ∀ X : String, bm.contains (.type X) = bmB.contains (.type X)) {fI : Addr} {Q : Fin → Shared → Prop}
    (hC : h.get? C = some (excClassObj nm q C N bs bm hdct sn sub ab col dd k0 k1 k2 k3 k5 newId))
    (hi : W.Looks (model prog w) h (typeLookup (.ref C) "__init__") (some (.ref fI))) (hb : ∀ self, W.Looks (model prog w) h (bindSpecial (.ref fI) self) (.ref fI, [self]))
    (hq : codeAny (model prog w) A (.call (.ref fI) ⟨[.ref (h.objs.size + 1)], [(kx, kv)]⟩)
      (fun r s' => match r with | .ok (.ret v) => v = .none ∧ Q (.done (.ret (.ref (h.objs.size + 1)))) s' | .ok _ => False | .error e => E e s')
      ⟨(h.push (W.kdv_tup [])).push (excO C h.objs.size), g, d, t, os⟩) :
    wpAny (model prog w) A (Builtin.«type.__call__» ⟨[.ref C], [(kx, kv)]⟩) Q E ⟨h, g, d, t, os⟩ := by
  repeat (first | with_reducible refine wpAny_loadPart_at hC ?_ | with_reducible refine wpAny_madeBy_exc hC ?_ | wp_step)
  refine codeAny_call_builtin_code (Code.quiet_builtin _ F.quiet) (check_new_kw F hT hC ?_)
  refine new_kw F hT hC ?_
  show wpAny _ _ _ _ _ _
  have k : ∀ b o, h.get? b = some o → ((h.push (W.kdv_tup [])).push (excO C h.objs.size)).get? b = some o := fun b o e => Heap.get?_push_of_some _ (Heap.get?_push_of_some _ e)
  have hC₁ := k _ _ hC
  have hget : ((h.push (W.kdv_tup [])).push (excO C h.objs.size)).get? (h.objs.size + 1) = some (excO C h.objs.size) := by heap_get
  have hcC : (Value.ref C :: bm).contains (.ref C) = true := by simp
  have i1 := hi.keeps k
  have b1 := (hb (.ref (h.objs.size + 1))).keeps k
  unfold isInstance
  repeat (first | with_reducible refine wpAny_loadPart_at hget ?_ | (with_reducible refine wpAny_isSubtype_exc hC₁ ?_; rw [hcC]) | wp_step)
  show wpAny _ _ (typeLookup (.ref C) _) _ _ _
  refine i1.at ?_
  refine wpAny_holding (wpAny_bind (b1.at ?_))
  refine wpAny_bind (wpAny_call (codeAny_mono hq fun r s' z => ?_))
  rcases r with e | (v | _ | _ | _) <;> first | exact z | exact z.elim | skip
  obtain ⟨rfl, z⟩ := z
  first
    | exact wpAny_pure (wpAny_pure z)
    | (wp_walk; exact z)
theorem check_call_kw {Q : Unit → Shared → Prop} (hC : h.get? C = some (excClassObj nm q C N bs bm hdct sn sub ab col dd k0 k1 k2 k3 k5 newId))
    (hq : Q () ⟨h, g, d, t, os⟩) : wpAny M A (checkBuiltinCall "type.__call__" ⟨[.ref C], [(kx, kv)]⟩) Q E ⟨h, g, d, t, os⟩ := by
  have f3 := tc_sub
  have hT : (⟨h, g, d, t, os⟩ : Shared).TypeIs (.ref C) "type" := ⟨_, hC, rfl⟩
  simp only [checkBuiltinCall, tc_kind, tc_split]
  repeat (any_goals (first | assumption | with_reducible refine wpAny_loadPart_at hC ?_ | with_reducible refine wpAny_onRaise ?_ | with_reducible refine wpAny_map ?_ | wp_step))
theorem call_kw (F : ExcBaseFacts B newId initId bmB) (hT : ∀ X : String, bm.contains (.type X) = bmB.contains (.type X)) {fI : Addr}
    (hC : h.get? C = some (excClassObj nm q C N bs bm hdct sn sub ab col dd k0 k1 k2 k3 k5 newId))
    (hi : W.Looks (model prog w) h (typeLookup (.ref C) "__init__") (some (.ref fI))) (hb : ∀ self, W.Looks (model prog w) h (bindSpecial (.ref fI) self) (.ref fI, [self]))
    (hq : codeAny (model prog w) (A.under (.builtin "type.__call__" ⟨[.ref C], [(kx, kv)]⟩)) (.call (.ref fI) ⟨[.ref (h.objs.size + 1)], [(kx, kv)]⟩) (W.InitBack (h.objs.size + 1) R)
      ⟨(h.push (W.kdv_tup [])).push (excO C h.objs.size), g, d, t, os⟩) :
    codeAny (model prog w) A (.call (.ref C) ⟨[], [(kx, kv)]⟩) R ⟨h, g, d, t, os⟩ := by
  have f1 := tc_lookup
  have f2 := tc_bind (.ref C)
  have hTy : (⟨h, g, d, t, os⟩ : Shared).TypeIs (.ref C) "type" := ⟨_, hC, rfl⟩
  refine codeAny_of_tree ?_
  show wpAny _ _ (callAny (.ref C) _) _ _ _
  repeat (any_goals (first | assumption | with_reducible refine wpAny_loadPart_at hC ?_ | wp_step))
  refine ⟨rfl, ?_⟩
  refine codeAny_call_builtin_at (Code.quiet_builtin _ (by decide +kernel)) entry_typeCall (check_call_kw hC (type_call_kw F hT hC hi hb ?_))
  refine codeAny_mono hq fun r s' z => ?_
  rcases r with e | (v | _ | _ | _) <;> exact z
end
/-! ### self.f = f, by keyword; made errors -/
def FlKw (fl : Str) : Prop := ∀ (qual : Str) (p1 p2 : Pos) (b : List Stmt) (sc : Scope) (kV doc pm : Value) (an : Option Addr) (cdv ct a v : Value), bindArgs (fnOf "__init__" qual (xA fl p1 p2) b sc .none kV doc pm an cdv ct) ⟨[a], [(fl, v)]⟩ = pure [(("self" : Str), a), (fl, v)]
section
variable {prog : Program} {w : World} {A : Around} {E : Value → Shared → Prop} {R : Result → Shared → Prop} {s : Shared} {K : Frag} {mg : Str → Option Value} {x0 fl qual : Str} {C P fI : Addr}
theorem x_initK (T : ExT K mg x0 fl qual C P fI) (hf : FlOk fl) (hk : FlKw fl) {x t0 : Addr} {v : Value} (X : K.In s.heap) (hlim : s.heap.NoLimit) (hx : s.heap.get? x = some (excO C t0)) (hroom : A.depth < recursionLimit)
    (hq : ∀ h' tk dx, XInit s.heap h' x C dx t0 fl v → R (.ok (.ret .none)) { s with heap := h', toks := tk }) :
    codeAny (model prog w) A (.call (.ref fI) ⟨[.ref x], [(fl, v)]⟩) R s := by
  obtain ⟨oc, od, kV, doc, pm, an, cdv, ct, osl, p1, p2, q1, q2, q3, q4, ho, hcd⟩ := T.fn
  obtain ⟨nm, q, N, bs, sn, sub, ab, col, dd, k0, k1, k2, k3, k5, hC⟩ := T.cls
  have hcl : clsIn K C = some { name := nm, bases := bs, mro := .ref C :: .ref P :: ESX.exTail, ns := N, qualname := q, hasDict := true, slotNames := sn, subclasses := sub, abstract := ab, collection := col, hasDel := false } := by unfold clsIn; rw [hC] <;> rfl
  refine Att.call_fn (binds := [("self", .ref x), (fl, v)]) X hlim ho hcd hroom (BindsTo.of_eq (hk _ _ _ _ _ _ _ _ _ _ _ _ _)) (hf.all_ _ _) (fun s₁ IC => ?_) rfl rfl rfl
  obtain ⟨h₁, tk₁, rfl⟩ := IC.toInCall.same
  have k : ∀ b o, s.heap.get? b = some o → h₁.get? b = some o := IC.toInCall.keep
  have hn := IC.toInCall.ns
  have hxL : s.heap.objs.size ≠ x := Nat.ne_of_gt (Heap.lt_size hx)
  have X₁ : K.In h₁ := X.keeps k
  have hx₁ := k _ _ hx
  show wpAny _ _ (execs _ _) _ _ _
  refine wpAny_execs_cons (plainObj_wpAny_Assign_Attribute ?_)
  refine ldX (v := v) hn (hf.bf _ _ _ _ _ _) (ldX (v := .ref x) hn (hf.bs _ _ _ _ _ _) ?_ (hf.ks _ _ _ _) (by decide)) (hf.kf _ _ _ _) hf.dbg
  refine set_plain X₁ (ox := excO C t0) (od := none) ⟨hx₁, rfl, rfl, trivial⟩ T.sa ?_
  refine osa_P X₁ hx₁ hcl rfl rfl T.noN (fun h₃ tk₃ dx k₃ dn dne hx₃ hn₃ => ?_)
  show wpAny _ _ (execs _ _) _ _ _
  have z : s.heap.objs.size < h₁.objs.size := hn.lt
  exact wpAny_execs_nil (hq h₃ tk₃ dx ⟨fun b o hb e => k₃ b o hb (k b o e), hx₃, Nat.le_of_lt (Nat.lt_of_lt_of_le z dn), dne, hn₃⟩)
theorem x_madeK (T : ExT K mg x0 fl qual C P fI) (hf : FlOk fl) (hk : FlKw fl) {v : Value} (X : K.In s.heap) (hlim : s.heap.NoLimit) (hroom : A.depth + 1 < recursionLimit)
    (hq : ∀ h' tk e d, XMade s.heap h' e C d fl v → R (.ok (.ret (.ref e))) { s with heap := h', toks := tk }) :
    codeAny (model prog w) A (.call (.ref C) ⟨[], [(fl, v)]⟩) R s := by
  obtain ⟨nm, q, N, bs, sn, sub, ab, col, dd, k0, k1, k2, k3, k5, hC⟩ := T.cls
  obtain ⟨hp, g, dr, tk, os⟩ := s
  have k : ∀ b o, hp.get? b = some o → ((hp.push (kdv_tup [])).push (excO C hp.objs.size)).get? b = some o := fun b o e => Heap.get?_push_of_some _ (Heap.get?_push_of_some _ e)
  have hget : ((hp.push (kdv_tup [])).push (excO C hp.objs.size)).get? (hp.objs.size + 1) = some (excO C hp.objs.size) := by heap_get
  refine call_kw F.excBase_Exception (fun X => tailP_eq X) (X _ _ hC) (looks_findIn X T.iC) (fun self => bind_fn X self T.tC) ?_
  refine x_initK (s := ⟨(hp.push (kdv_tup [])).push (excO C hp.objs.size), g, dr, tk, os⟩) T hf hk (X.keeps k) (hlim.keeps k) hget ?_ fun h' tk' dx ⟨k', hx, dn, dne, hns⟩ => ?_
  · show A.depth + 1 < recursionLimit
    exact hroom
  · have old : ∀ b o, hp.get? b = some o → h'.get? b = some o := fun b o e => k' b o (Nat.ne_of_lt (Nat.lt_succ_of_lt (Heap.lt_size e))) (k b o e)
    have z : hp.objs.size + 1 + 1 ≤ dx := by
      first
        | (simpa only [Heap.size_push] using dn)
        | exact dn
        | (have q := dn; rw [Heap.size_push, Heap.size_push] at q; exact q)
    exact ⟨rfl, hq h' tk' (hp.objs.size + 1) dx ⟨old, Nat.le_succ _, ⟨_, hx⟩, Nat.le_trans (Nat.le_trans (Nat.le_succ _) (Nat.le_succ _)) z, dne, hns⟩⟩
end
end Ps

/-! Own errors as values: isinstance, the rules. -/
namespace Ps
open PySem PySem.Spec PySem.W PySem.Calls PyProof.Rows
section
variable {prog : Program} {w : World} {A : Around} {E : Value → Shared → Prop} {s : Shared} {K : Frag} {x D : Addr} {ox : Obj} {od : Option Obj}
theorem findObj_dataD {C : Addr} {name : Str} {a g : Value} (hc : (clsIn K C).isSome = true) (ha : findIn K (.ref C) name = some (some a)) (hg : specialIn K a "__get__" = some (some g)) (ht : takesIn K a = some true) : findObj K C od name = some (.bind g a) := by
  obtain ⟨cd, hc⟩ := Option.isSome_iff_exists.mp hc
  unfold findObj
  rw [hc, Option.bind_some, ha, Option.bind_some]
  simp [hg, ht]
theorem kin_classD {Q : Option Value → Shared → Prop} (hga : findIn K (.ref D) "__getattribute__" = some (some (.builtin "BaseException.__getattribute__"))) (hgt : findIn K (.ref D) "__getattr__" = some none) (hsub : subIn K (.ref D) (.type "BaseException") = some true)
    (hdct : hasDictIn K D = true) (ha : findIn K (.ref D) "__class__" = some (some (.builtin "object.__class__")))
    (hn : specialIn K (.builtin "object.__class__") "__get__" = some (some (.builtin "getset_descriptor.__get__"))) (htk : takesIn K (.builtin "object.__class__") = some true) (hm : mroIn K D (.type "object") = some true)
    (X : K.In s.heap) (I : InstAt s.heap x ox D od) (h : Q (some (.ref D)) { s with toks := s.toks + 1 }) : wpAny (model prog w) A (getAttr? (.ref x) "__class__") Q E s := by
  have hf : findObj K D od "__class__" = some (.bind (.builtin "getset_descriptor.__get__") (.builtin "object.__class__")) := findObj_dataD (by obtain ⟨cd, hc, _⟩ := any_some hdct; rw [hc]; rfl) ha hn htk
  obtain ⟨hp, g, d, t, os⟩ := s
  have L0 := I.type (M := model prog w)
  have L1 := looks_findIn (M := model prog w) X hga
  have L2 := looks_findIn (M := model prog w) X hgt
  have L3 := looks_find (M := model prog w) X I hf
  have sub : Looks (model prog w) hp (isInstance (.ref x) (.type "BaseException")) true := L0.andThen (looks_subIn X hsub)
  have hx0 : (false && onTheHeap (Value.builtin "BaseException.__getattribute__")) = false := rfl
  have hx2 : (Value.builtin "BaseException.__getattribute__" == Value.builtin "object.__getattribute__") = false := by decide +kernel
  have hx1 : (onTheHeap (Value.ref D) && Value.builtin "BaseException.__getattribute__" == Value.builtin "object.__getattribute__") = false := by rw [hx2]; rfl
  unfold getAttr? getAttrBy? getAttrBy
  refine wpAny_bind (wpAny_mkText (wpAny_bind (wpAny_attempt (wpAny_holding (wpAny_bind (L0.at (wpAny_bind (L1.at ?_))))))))
  show wpAny _ _ (if (onTheHeap (Value.ref D) && Value.builtin "BaseException.__getattribute__" == Value.builtin "object.__getattribute__") = true then _ else _) _ _ _
  rw [hx1, if_neg Bool.false_ne_true]
  unfold getAttrByItsOwn hookBefore
  refine wpAny_bind ?_
  rw [if_pos (show onTheHeap (Value.ref D) = true from rfl)]
  refine L2.at ?_
  refine wpAny_bind (wpAny_attempt (wpAny_holding ?_))
  unfold callGetattribute
  rw [hx0, if_neg Bool.false_ne_true]
  unfold boundAndCalled
  rw [PySem.F.excAttr_ValueError.ga.bind (.ref x)]
  refine wpAny_bind (wpAny_pure ?_)
  show wpAny _ _ (call (.builtin "BaseException.__getattribute__") [.ref x, .str "__class__" t]) _ _ _
  refine wpAny_call (codeAny_call_builtin PySem.F.excAttr_ValueError.ga.plain PySem.F.entry_bexc_ga ?_)
  refine @check_slot (model prog w) _ _ ⟨hp, g, d, t + 1, os⟩ "BaseException.__getattribute__" "BaseException" "__getattribute__" (.ref x) [.str "__class__" t] [] _ (by decide +kernel) (by decide +kernel) sub (PySem.F.args_bexc_ga (.ref x) (.str "__class__" t)) ?_
  unfold Builtin.«object.__getattribute__»
  refine wpAny_bind (wpAny_of_eq (a := ((Value.ref x : Value), [Value.str "__class__" t])) (by first | rfl | (simp only [slotArgs]; rfl)) ?_)
  refine wpAny_bind (wpAny_pure (wpAny_bind (L0.at (wpAny_bind (L3.at ?_)))))
  show wpAny _ _ (holding [Value.builtin "object.__class__"] (call (.builtin "getset_descriptor.__get__") [.builtin "object.__class__", .ref x, .ref D]) >>= ret) _ _ _
  refine wpAny_bind (wpAny_holding (wpAny_call (class_get (s := ⟨hp, g, d, t + 1, os⟩) (ox := ox) (od := od) X I hm ?_)))
  refine wpAny_pure ?_
  show wpAny _ _ (handedOut (.ref D)) _ _ _
  rw [handedOut_of (v := .ref D) rfl]
  first
    | exact wpAny_pure (wpAny_pure h)
    | exact wpAny_pure h
    | exact wpAny_pure (wpAny_bind (wpAny_pure (wpAny_pure h)))
theorem kitx_excD (hga : findIn K (.ref D) "__getattribute__" = some (some (.builtin "BaseException.__getattribute__"))) (hgt : findIn K (.ref D) "__getattr__" = some none) (hsub : subIn K (.ref D) (.type "BaseException") = some true) (hdct : hasDictIn K D = true) (ha : findIn K (.ref D) "__class__" = some (some (.builtin "object.__class__")))
    (hn : specialIn K (.builtin "object.__class__") "__get__" = some (some (.builtin "getset_descriptor.__get__"))) (htk : takesIn K (.builtin "object.__class__") = some true) (hm : mroIn K D (.type "object") = some true) :
    KitX K (.ref x) (.ref D) (fun h => InstAt h x ox D od) where
  ty := fun _ _ _ I => I.type
  it := fun _ _ X _ => by
    obtain ⟨cdD, hcD, _⟩ := any_some hdct
    unfold clsIn at hcD
    split at hcD
    · rename_i c' d' cd' sl' ho
      intro A' Q' E' s' k q
      unfold isType loadHead
      exact wpAny_bind (wpAny_loadPart (k _ _ (X _ _ ho)) (wpAny_pure q))
    · cases hcD
  ne := fun h tp dd its n sl X htp => by
    obtain ⟨cdD, hcD, _⟩ := any_some hdct
    refine Bool.eq_false_iff.mpr fun q => ?_
    have e : D = tp := Value.ref.inj (beq_iff_eq.mp q)
    subst e
    unfold clsIn at hcD
    split at hcD
    · rename_i c' d' cd' sl' ho
      have z := (X _ _ ho).symm.trans htp
      cases z
    · cases hcD
  ca := fun X I k => kin_classD hga hgt hsub hdct ha hn htk hm X I k
end
end Ps

/-! Own errors as values: the rules. -/
namespace Ps
open PySem PySem.Spec PySem.W PySem.Calls PyProof.Rows PySem.HandSPX L2
section
variable {X : Cx} {C P fI : Addr} {x0 fl qual : Str}
/-- X(e) as a value: the error at e, its dict at d -/
def evPut (H : Hp) (e d C : Addr) (fl : Str) (v : V) : Hp := L2.upd (L2.upd H d (.xd [(fl, v)])) e (exo e C (some d))
def tEv (C : Addr) (fl : Str) (ta : TA) : TE := fun σ H Q => ta σ H fun vs H1 => ∃ v, vs = [v] ∧ ∀ e d, H1 e = none → H1 d = none → d ≠ e → Q (.ref e) (evPut H1 e d C fl v)
theorem ev_inv {pins : List (Addr × Obj)} {σ : L2.St} {H1 : Hp} {hp h' : Heap} {g : Array GenState} {dr : Drawn} {tk tk' : Nat} {os : OsState} {e d : Addr} {v : V} {v' : Value} (I1 : L2.Inv X pins σ H1 ⟨hp, g, dr, tk, os⟩) (rv : RelV v v') (M : XMade hp h' e C d fl v') :
    L2.Inv X pins σ (evPut H1 e d C fl v) ⟨h', g, dr, tk', os⟩ ∧ H1 e = none ∧ H1 d = none := by
  obtain ⟨t1, hoe⟩ := M.obj
  have hns := M.ns
  obtain ⟨G', g1, g2⟩ := restrict h' fun b => decide (b ≠ e)
  have gk : ∀ b, b ≠ e → G'.get? b = h'.get? b := fun b hb => g1 b (decide_eq_true hb)
  have ge : G'.get? e = none := g2 e (by simp)
  have old : ∀ b o, hp.get? b = some o → G'.get? b = some o := fun b o q => (gk b (Nat.ne_of_lt (Nat.lt_of_lt_of_le (Heap.lt_size q) M.new))).trans (M.keep b o q)
  have ob : ObjOk X.prog X.w (L2.upd H1 d (.xd [(fl, v)])) G' d (.xd [(fl, v)]) :=
    ⟨_, hns.at (fun o q => (gk d M.dne).trans q), fun f => relO_x rv f⟩
  have J : L2.Inv X pins σ (L2.upd H1 d (.xd [(fl, v)])) ⟨G', g, dr, tk', os⟩ := I1.laid (t' := tk') old M.dbig ob
  have he : H1 e = none := I1.hok.fresh M.new
  have hne : (L2.upd H1 d (.xd [(fl, v)])) e = none := by rw [upd_ne (Ne.symm M.dne)]; exact he
  refine ⟨J.laidN (t' := tk') (fun b u q => ?_) ge hne (exo_ok hoe), he, I1.hok.fresh M.dbig⟩
  by_cases hb : b = e
  · have q' : G'.get? b = some u := q
    rw [hb, ge] at q'; cases q'
  · exact (gk b hb).symm.trans q
theorem pe_ev {a : Expr} {ta : TA} {p pos : Pos} {k : Nat} (T : ExT X.K X.mg x0 fl qual C P fI) (hf : FlOk fl) (hr : Room k X.A) (ha : PA X [a] ta) (hg : Gl X x0)
    (he : starEach (a :: []) X.env = (false, eval a X.env) :: starEach [] X.env := by rfl) (hpl : (backTo pos (starEach [] X.env)).any (·.1) = false := by rfl) (hdb : (x0 == ("__debug__" : Str)) = false := by decide) :
    PE X (.Call (.Name x0 p) [a] [] pos) (tEv C fl ta) := by
  refine ⟨fun pins s σ H Q I h => ?_⟩
  refine wpAny_Call_Name_kw (ld_glob I hg T.gC ?_ hdb)
  refine callWith_K (h₀ := X.base) I.ok.mod.kin T.kC (thn (ha.run pos pins s σ H _ I h) fun us s1 hh => ?_) he hpl
  obtain ⟨vs, H1, I1, r1, v, ev, q1⟩ := hh
  subst ev
  refine ⟨I1.kIn, ?_⟩
  obtain ⟨v', rfl, rv⟩ := vals1 r1
  show wpAny _ _ (call (.ref C) [v']) _ _ _
  have hlim := I1.nolimit
  obtain ⟨hp, g, dr, tk, os⟩ := s1
  refine wpAny_call (x_made T hf I1.kIn hlim (by have := hr.dp; omega) fun h' tk' e d M => ?_)
  obtain ⟨J, he, hd⟩ := ev_inv (tk' := tk') I1 rv M
  exact ⟨.ref e, _, J, rfl, q1 e d he hd M.dne⟩
/-- X(f=e) -/
theorem pe_evK {a : Expr} {ta : TA} {p pos kpos : Pos} {k : Nat} (T : ExT X.K X.mg x0 fl qual C P fI) (hf : FlOk fl) (hk : FlKw fl) (hr : Room k X.A) (hkw : PK X [⟨some fl, a, kpos⟩] ta) (hg : Gl X x0)
    (hall : (backToKw pos (keywordEach [⟨some fl, a, kpos⟩] X.env)).all (·.1.isSome) = true := by rfl) (hks : (backToKw pos (keywordEach [⟨some fl, a, kpos⟩] X.env)).filterMap (·.1) = [fl] := by rfl) (hdb : (x0 == ("__debug__" : Str)) = false := by decide)
    (hpl : ((backTo pos (starEach [] X.env)).any (·.1) || (backToKw pos (keywordEach [⟨some fl, a, kpos⟩] X.env)).any (·.1.isNone)) = false := by rfl) :
    PE X (.Call (.Name x0 p) [] [⟨some fl, a, kpos⟩] pos) (tEv C fl ta) := by
  refine ⟨fun pins s σ H Q I h => ?_⟩
  refine wpAny_Call_Name_kw (ld_glob I hg T.gC ?_ hdb)
  refine callWith_KW0 (h₀ := X.base) I.ok.mod.kin T.kC hall ?_ hpl
  refine thn (hkw.run pos pins s σ H _ I h) fun ws s1 hh => ?_
  obtain ⟨vs, H1, I1, r1, v, ev, q1⟩ := hh
  subst ev
  refine ⟨I1.kIn, ?_⟩
  obtain ⟨v', rfl, rv⟩ := vals1 r1
  rw [hks]
  show wpAny _ _ (call (.ref C) [] [(fl, v')]) _ _ _
  have hlim := I1.nolimit
  obtain ⟨hp, g, dr, tk, os⟩ := s1
  refine wpAny_call (x_madeK T hf hk I1.kIn hlim (by have := hr.dp; omega) fun h' tk' e d M => ?_)
  obtain ⟨J, he, hd⟩ := ev_inv (tk' := tk') I1 rv M
  exact ⟨.ref e, _, J, rfl, q1 e d he hd M.dne⟩
/-- isinstance(e, c), e such a value -/
def rIsEv (K : Frag) : List V → Hp → VK → Prop := fun xs H Q => ∃ (a D : Addr) (d : Option Addr) (c : V) (cv : Value) (b : Bool), xs = [.ref a, c] ∧ H a = some (exo a D d) ∧ (∀ dd, d = some dd → ∃ fs, H dd = some (.xd fs)) ∧ ExcC K D ∧ ClsV c cv ∧ kitOne K (.ref D) cv = some b ∧ Q (.bl b) H
theorem call_isEv : CallR X (.builtin "isinstance") (rIsEv X.K) := by
  intro pins s σ H xs us Q I r h
  obtain ⟨a, D, d, c, cv, b, rfl, ha, hdd, Cc, hc, e, q⟩ := h
  obtain ⟨u1, u2, rfl, r1, r2⟩ := vals2 r
  cases (show u1 = Value.ref a from r1)
  have ec := hc.eq r2
  subst ec
  obtain ⟨t1, hget⟩ := exo_at I.hok ha
  cases d with
  | none =>
    exact kia_one (kitx_excD (od := none) Cc.hg Cc.hk Cc.hs Cc.hd Cc.ha Cc.hn Cc.ht Cc.hm) I.kIn (⟨hget, rfl, rfl, trivial⟩ : InstAt s.heap a _ D none) e (fun z => nomatch z) fun tk => ⟨.bl b, H, I.kept (t' := tk) fun _ _ z => z, rfl, q⟩
  | some dd =>
    obtain ⟨fs, hx⟩ := hdd dd rfl
    have hx : ObjOk X.prog X.w H s.heap dd (.xd fs) := I.hok dd _ hx
    obtain ⟨mA, hns, hr⟩ := hx
    obtain ⟨od, ho, hl⟩ := lookIn_ns hns
    exact kia_one (kitx_excD (od := some od) Cc.hg Cc.hk Cc.hs Cc.hd Cc.ha Cc.hn Cc.ht Cc.hm) I.kIn (⟨hget, rfl, rfl, ho⟩ : InstAt s.heap a _ D (some od)) e (fun z => nomatch z) fun tk => ⟨.bl b, H, I.kept (t' := tk) fun _ _ z => z, rfl, q⟩
/-- e.f, e such a value -/
def tEvf (K : Frag) (f : Str) (te : TE) : TE := fun σ H Q => te σ H fun x H1 => ∃ (a C d : Addr) (fs : List (Str × V)) (v : V), x = .ref a ∧ H1 a = some (exo a C (some d)) ∧ H1 d = some (.xd fs) ∧ XfC K C ∧ findIn K (.ref C) f = some none ∧ fs.lookup f = some v ∧ Q v H1
theorem pe_evf {e : Expr} {te : TE} {pos : Pos} {n : Str} (he : PE X e te) (hb : attributeBase e n X.env (eval e X.env) = eval e X.env := by rfl) : PE X (.Attribute e n pos) (tEvf X.K n te) := by
  refine ⟨fun pins s σ H Q I h => ?_⟩
  refine attr_of hb (thn (he.run pins s σ H _ I h) fun u s1 hh => ?_)
  obtain ⟨x, H1, I1, rx, a, C, d, fs, v, ex, ha, hd, T, hno, l, q⟩ := hh
  subst ex
  obtain rfl : u = Value.ref a := rx
  obtain ⟨t1, hget⟩ := exo_at I1.hok ha
  have hx : ObjOk X.prog X.w H1 s1.heap d (.xd fs) := I1.hok d _ hd
  obtain ⟨mA, hns, hr⟩ := hx
  obtain ⟨od, ho, hl⟩ := lookIn_ns hns
  obtain ⟨u, hu, ru⟩ := RelO.some_of (v := v) (o := mA n) (by rw [← l]; exact hr n)
  have J : InstAt s1.heap a _ C (some od) := ⟨hget, rfl, rfl, ho⟩
  exact HandSPX.exc_get I1.kIn J T.ga T.gg T.exC (PySem.W.findObj_own T.hdC hno rfl (by rw [hl, hu])) (handed_of ru) ⟨v, H1, I1.tok _, ru, q⟩
/-- X(), X without own __init__ -/
theorem pe_ev0 {bmB : List Value} {B newId initId : String} {x : Str} {p pos : Pos} (F : ExcBaseFacts B newId initId bmB) (q : excIn X.K C bmB newId = true) (gC : X.mg x = some (.ref C)) (kC : keepIn X.K (.ref C) = true) (hg : Gl X x)
    (hdb : (x == ("__debug__" : Str)) = false := by decide) :
    PE X (.Call (.Name x p) [] [] pos) (fun σ H Q => ∀ a, H a = none → Q (.ref a) (upd H a (exo a C none))) := by
  refine ⟨fun pins s σ H Q I h => ?_⟩
  refine wpAny_Call_Name_kw (ld_glob I hg gC ?_ hdb)
  refine callWith_K0 I.kIn kC ?_
  show wpAny _ _ (call (.ref C) []) _ _ _
  obtain ⟨bm, N, nm, qn, bs, hdct, sn, sub, ab, col, dd, k0, k1, k2, k3, k5, mN, hC, hN, hni, T⟩ := exc_obj I.kIn q
  refine wpAny_call_exc_subT F T hC hN hni (fun h' a hm => ?_) (by show 0 ≤ sizeLine; exact Nat.zero_le _)
  have hn : H a = none := I.hok.gone hm.new
  obtain ⟨t, ht, _, _⟩ := hm.there
  exact ⟨.ref a, upd H a (exo a C none), I.laidN hm.keeps hm.new hn (exo_ok ht), rfl, h a hn⟩
end
end Ps

/-! Own errors as values: short words. -/
namespace Ps
open PySem PySem.Spec PySem.W PySem.Calls PyProof.Rows PySem.HandSPX L2
theorem Same.ev {H : Hp} {e d C : Addr} {fl : Str} {v : V} (he : H e = none) (hd : H d = none) (hn : d ≠ e) : Same H (evPut H e d C fl v) := (Same.upd hd).trans (Same.upd (by rw [upd_ne (Ne.symm hn)]; exact he))
/-- an error of the class at C -/
def EvAt (H : Hp) (v : V) (C : Addr) : Prop := ∃ a d, v = .ref a ∧ H a = some (exo a C d) ∧ ∀ dd, d = some dd → ∃ fs, H dd = some (.xd fs)
theorem EvAt.mono {H H' : Hp} {v : V} {C : Addr} (h : EvAt H v C) (e : Same H H') : EvAt H' v C := by
  obtain ⟨a, d, hv, ha, hd⟩ := h
  exact ⟨a, d, hv, e _ _ ha, fun dd z => by obtain ⟨fs, h⟩ := hd dd z; exact ⟨fs, e _ _ h⟩⟩
theorem ev_new {C : Addr} {fl : Str} {i : Nat} {σ : L2.St} {H : Hp} {v : V} {Q : VK} (hv : σ[i]? = some (some v)) (k : ∀ w H', Same H H' → EvAt H' w C → Q w H') : tEv C fl (tCons (tVar i) tNil) σ H Q := by
  refine ⟨v, hv, v, rfl, fun e d he hd hn => k _ _ (Same.ev he hd hn) ⟨e, some d, rfl, upd_same, fun dd z => ?_⟩⟩
  cases z
  exact ⟨_, by unfold evPut; rw [upd_ne hn]; exact upd_same⟩
theorem ev_field {K : Frag} {C : Addr} {fl : Str} {i : Nat} {σ : L2.St} {H : Hp} {v : V} {Q : VK} (xf : XfC K C) (no : findIn K (.ref C) fl = some none) (hv : σ[i]? = some (some v)) (k : ∀ H', Same H H' → Q v H') : tEvf K fl (tEv C fl (tCons (tVar i) tNil)) σ H Q := by
  refine ⟨v, hv, v, rfl, fun e d he hd hn => ⟨e, C, d, [(fl, v)], v, rfl, upd_same, by unfold evPut; rw [upd_ne hn]; exact upd_same, xf, no, lookup_one, k _ (Same.ev he hd hn)⟩⟩
theorem is_step {K : Frag} {C : Addr} {i : Nat} {σ : L2.St} {H : Hp} {v c : V} {cv : Value} {b : Bool} {Q : VK} (hv : σ[i]? = some (some v)) (h : EvAt H v C) (ec : ExcC K C) (hc : ClsV c cv) (hk : kitOne K (.ref C) cv = some b) (k : Q (.bl b) H) :
    tCB (rIsEv K) (tCons (tVar i) (tCons (tC c) tNil)) σ H Q := by
  obtain ⟨a, d, rfl, ha, hd⟩ := h
  exact ⟨_, hv, a, C, d, c, cv, b, rfl, ha, hd, ec, hc, hk, k⟩
theorem fl_field : FlOk "field" := ⟨fun _ _ _ _ _ _ _ _ _ _ _ _ _ => rfl, fun _ _ => rfl, fun _ _ _ _ _ _ => rfl, fun _ _ _ _ _ _ => rfl, fun _ _ _ _ => rfl, fun _ _ _ _ => rfl, by decide⟩
theorem fl_number : FlOk "number" := ⟨fun _ _ _ _ _ _ _ _ _ _ _ _ _ => rfl, fun _ _ => rfl, fun _ _ _ _ _ _ => rfl, fun _ _ _ _ _ _ => rfl, fun _ _ _ _ => rfl, fun _ _ _ _ => rfl, by decide⟩
theorem fl_atx : FlOk "at" := ⟨fun _ _ _ _ _ _ _ _ _ _ _ _ _ => rfl, fun _ _ => rfl, fun _ _ _ _ _ _ => rfl, fun _ _ _ _ _ _ => rfl, fun _ _ _ _ => rfl, fun _ _ _ _ => rfl, by decide⟩
theorem fl_name : FlOk "name" := ⟨fun _ _ _ _ _ _ _ _ _ _ _ _ _ => rfl, fun _ _ => rfl, fun _ _ _ _ _ _ => rfl, fun _ _ _ _ _ _ => rfl, fun _ _ _ _ => rfl, fun _ _ _ _ => rfl, by decide⟩
theorem fl_paper : FlOk "paper" := ⟨fun _ _ _ _ _ _ _ _ _ _ _ _ _ => rfl, fun _ _ => rfl, fun _ _ _ _ _ _ => rfl, fun _ _ _ _ _ _ => rfl, fun _ _ _ _ => rfl, fun _ _ _ _ => rfl, by decide⟩
theorem fl_line : FlOk "line" := ⟨fun _ _ _ _ _ _ _ _ _ _ _ _ _ => rfl, fun _ _ => rfl, fun _ _ _ _ _ _ => rfl, fun _ _ _ _ _ _ => rfl, fun _ _ _ _ => rfl, fun _ _ _ _ => rfl, by decide⟩
theorem fl_word : FlOk "word" := ⟨fun _ _ _ _ _ _ _ _ _ _ _ _ _ => rfl, fun _ _ => rfl, fun _ _ _ _ _ _ => rfl, fun _ _ _ _ _ _ => rfl, fun _ _ _ _ => rfl, fun _ _ _ _ => rfl, by decide⟩
theorem fk_value : FlKw "value" := fun _ _ _ _ _ _ _ _ _ _ _ _ _ => rfl
theorem fk_field : FlKw "field" := fun _ _ _ _ _ _ _ _ _ _ _ _ _ => rfl
theorem fk_number : FlKw "number" := fun _ _ _ _ _ _ _ _ _ _ _ _ _ => rfl
theorem fk_name : FlKw "name" := fun _ _ _ _ _ _ _ _ _ _ _ _ _ => rfl
theorem fk_paper : FlKw "paper" := fun _ _ _ _ _ _ _ _ _ _ _ _ _ => rfl
theorem fk_line : FlKw "line" := fun _ _ _ _ _ _ _ _ _ _ _ _ _ => rfl
theorem fk_word : FlKw "word" := fun _ _ _ _ _ _ _ _ _ _ _ _ _ => rfl
end Ps

set_option maxHeartbeats 8000000
/-! k43: fields, objects, classes. -/
namespace Ps
open PySem PySem.Spec PyProof.Rows PySem.W L2

def errs : List (Str × Str) := [("BadArgument", "value"), ("BadPrice", "value"), ("BadBook", "field"), ("BadState", "value"), ("BadRow", "value"), ("BadParts", "value"), ("BadRows", "field"), ("BadSort", "value"), ("BadNumber", "value"), ("BadPlan", "value"), ("BadWay", "value"), ("NoNode", "value"), ("TooLarge", "number"), ("BadMenu", "value"), ("BadChange", "value"), ("BadText", "at"), ("BadName", "value"), ("NameTaken", "name"), ("Dearer", "paper"), ("FailedDeed", "at"), ("BadCommand", "line"), ("BadShare", "value"), ("DividedByNothing", "value"), ("BadKind", "word"), ("UnknownName", "name")]
def ExE (Z : Cz) (CC : Str → Addr) (x fl : Str) : Prop := ∃ qual P fI, ExT Z.K Z.mg x fl qual (CC x) P fI
section
variable {Z : Cz} {X : Cx} {CC : Str → Addr} {x0 fl : Str}
theorem pe_ev' {a : Expr} {ta : TA} {p pos : Pos} {k : Nat} (T : ExE Z CC x0 fl) (hf : FlOk fl) (hr : Room k X.A) (ha : PA X [a] ta) (hg : Gl X x0) (z : InZ Z X := by exact ⟨rfl, rfl, rfl, rfl, rfl⟩)
    (he : starEach (a :: []) X.env = (false, eval a X.env) :: starEach [] X.env := by rfl) (hpl : (backTo pos (starEach [] X.env)).any (·.1) = false := by rfl) (hdb : (x0 == ("__debug__" : Str)) = false := by decide) :
    PE X (.Call (.Name x0 p) [a] [] pos) (tEv (CC x0) fl ta) := by
  obtain ⟨q, P, fI, T⟩ := T
  rw [← z.K, ← z.mg] at T
  exact pe_ev T hf hr ha hg he hpl hdb
theorem pe_evK' {a : Expr} {ta : TA} {p pos kpos : Pos} {k : Nat} (T : ExE Z CC x0 fl) (hf : FlOk fl) (hk : FlKw fl) (hr : Room k X.A) (hkw : PK X [⟨some fl, a, kpos⟩] ta) (hg : Gl X x0) (z : InZ Z X := by exact ⟨rfl, rfl, rfl, rfl, rfl⟩)
    (hall : (backToKw pos (keywordEach [⟨some fl, a, kpos⟩] X.env)).all (·.1.isSome) = true := by rfl) (hks : (backToKw pos (keywordEach [⟨some fl, a, kpos⟩] X.env)).filterMap (·.1) = [fl] := by rfl) (hdb : (x0 == ("__debug__" : Str)) = false := by decide)
    (hpl : ((backTo pos (starEach [] X.env)).any (·.1) || (backToKw pos (keywordEach [⟨some fl, a, kpos⟩] X.env)).any (·.1.isNone)) = false := by rfl) :
    PE X (.Call (.Name x0 p) [] [⟨some fl, a, kpos⟩] pos) (tEv (CC x0) fl ta) := by
  obtain ⟨q, P, fI, T⟩ := T
  rw [← z.K, ← z.mg] at T
  exact pe_evK T hf hk hr hkw hg hall hks hdb hpl
theorem ExE.xf (T : ExE Z CC x0 fl) : XfC Z.K (CC x0) := by
  obtain ⟨q, P, fI, T⟩ := T
  exact T.xf
theorem ExE.no (T : ExE Z CC x0 fl) : findIn Z.K (.ref (CC x0)) fl = some none := by
  obtain ⟨q, P, fI, T⟩ := T
  exact T.noN
end
def spFields : Sp := fun vs H Q _ => ∃ v, vs = [v] ∧ NewL H Q (List.replicate 25 v)
section
variable {Z : Cz} {f : Addr} {fd : FuncData} {CC : Str → Addr}
theorem ok_fields (F : Fun Z.K "_law_fields" "_law_fields" s_lw_fields f fd) (hE : ∀ (i : Nat) (x fl : Str), errs[i]? = some (x, fl) → ExE Z CC x fl) : Z.ok CX0 3 f fd ["_law_thing"] spFields := by
  refine F.ok sc_lw_fields (fun vs H Q E h => ?_) (fun cdv A outer s H vs Q E hr h => ?_)
  · obtain ⟨v, rfl, _⟩ := h
    rfl
  · obtain ⟨v, rfl, k⟩ := h
    refine ⟨_, (pss_cons (ps_set (i := 1) sc_lw_fields.nd rfl (Or.inl rfl) (pe_lst (pa_cons (show PE _ _ (tEvf Z.K _ _) from pe_evf (pe_evK' (hE 0 _ _ rfl) fl_value fk_value hr (pk_cons (pv 0) pk_nil) (by rfl))) (pa_cons (show PE _ _ (tEvf Z.K _ _) from pe_evf (pe_evK' (hE 1 _ _ rfl) fl_value fk_value hr (pk_cons (pv 0) pk_nil) (by rfl))) (pa_cons (show PE _ _ (tEvf Z.K _ _) from pe_evf (pe_evK' (hE 2 _ _ rfl) fl_field fk_field hr (pk_cons (pv 0) pk_nil) (by rfl))) pa_nil)))))
      (pss_cons (ps_set (i := 1) sc_lw_fields.nd rfl (Or.inl rfl) (pe_op op_cat (pv 1) (pe_lst (pa_cons (show PE _ _ (tEvf Z.K _ _) from pe_evf (pe_evK' (hE 3 _ _ rfl) fl_value fk_value hr (pk_cons (pv 0) pk_nil) (by rfl))) (pa_cons (show PE _ _ (tEvf Z.K _ _) from pe_evf (pe_evK' (hE 4 _ _ rfl) fl_value fk_value hr (pk_cons (pv 0) pk_nil) (by rfl))) (pa_cons (show PE _ _ (tEvf Z.K _ _) from pe_evf (pe_evK' (hE 5 _ _ rfl) fl_value fk_value hr (pk_cons (pv 0) pk_nil) (by rfl))) pa_nil))))))
      (pss_cons (ps_set (i := 1) sc_lw_fields.nd rfl (Or.inl rfl) (pe_op op_cat (pv 1) (pe_lst (pa_cons (show PE _ _ (tEvf Z.K _ _) from pe_evf (pe_evK' (hE 6 _ _ rfl) fl_field fk_field hr (pk_cons (pv 0) pk_nil) (by rfl))) (pa_cons (show PE _ _ (tEvf Z.K _ _) from pe_evf (pe_evK' (hE 7 _ _ rfl) fl_value fk_value hr (pk_cons (pv 0) pk_nil) (by rfl))) (pa_cons (show PE _ _ (tEvf Z.K _ _) from pe_evf (pe_evK' (hE 8 _ _ rfl) fl_value fk_value hr (pk_cons (pv 0) pk_nil) (by rfl))) pa_nil))))))
      (pss_cons (ps_set (i := 1) sc_lw_fields.nd rfl (Or.inl rfl) (pe_op op_cat (pv 1) (pe_lst (pa_cons (show PE _ _ (tEvf Z.K _ _) from pe_evf (pe_evK' (hE 9 _ _ rfl) fl_value fk_value hr (pk_cons (pv 0) pk_nil) (by rfl))) (pa_cons (show PE _ _ (tEvf Z.K _ _) from pe_evf (pe_evK' (hE 10 _ _ rfl) fl_value fk_value hr (pk_cons (pv 0) pk_nil) (by rfl))) (pa_cons (show PE _ _ (tEvf Z.K _ _) from pe_evf (pe_evK' (hE 11 _ _ rfl) fl_value fk_value hr (pk_cons (pv 0) pk_nil) (by rfl))) pa_nil))))))
      (pss_cons (ps_set (i := 1) sc_lw_fields.nd rfl (Or.inl rfl) (pe_op op_cat (pv 1) (pe_lst (pa_cons (show PE _ _ (tEvf Z.K _ _) from pe_evf (pe_evK' (hE 12 _ _ rfl) fl_number fk_number hr (pk_cons (pv 0) pk_nil) (by rfl))) (pa_cons (show PE _ _ (tEvf Z.K _ _) from pe_evf (pe_evK' (hE 13 _ _ rfl) fl_value fk_value hr (pk_cons (pv 0) pk_nil) (by rfl))) (pa_cons (show PE _ _ (tEvf Z.K _ _) from pe_evf (pe_evK' (hE 14 _ _ rfl) fl_value fk_value hr (pk_cons (pv 0) pk_nil) (by rfl))) pa_nil))))))
      (pss_cons (ps_set (i := 1) sc_lw_fields.nd rfl (Or.inl rfl) (pe_op op_cat (pv 1) (pe_lst (pa_cons (show PE _ _ (tEvf Z.K _ _) from pe_evf (pe_ev' (hE 15 _ _ rfl) fl_atx hr (pa_cons (pv 0) pa_nil) (by rfl))) (pa_cons (show PE _ _ (tEvf Z.K _ _) from pe_evf (pe_evK' (hE 16 _ _ rfl) fl_value fk_value hr (pk_cons (pv 0) pk_nil) (by rfl))) (pa_cons (show PE _ _ (tEvf Z.K _ _) from pe_evf (pe_evK' (hE 17 _ _ rfl) fl_name fk_name hr (pk_cons (pv 0) pk_nil) (by rfl))) pa_nil))))))
      (pss_cons (ps_set (i := 1) sc_lw_fields.nd rfl (Or.inl rfl) (pe_op op_cat (pv 1) (pe_lst (pa_cons (show PE _ _ (tEvf Z.K _ _) from pe_evf (pe_evK' (hE 18 _ _ rfl) fl_paper fk_paper hr (pk_cons (pv 0) pk_nil) (by rfl))) (pa_cons (show PE _ _ (tEvf Z.K _ _) from pe_evf (pe_ev' (hE 19 _ _ rfl) fl_atx hr (pa_cons (pv 0) pa_nil) (by rfl))) (pa_cons (show PE _ _ (tEvf Z.K _ _) from pe_evf (pe_evK' (hE 20 _ _ rfl) fl_line fk_line hr (pk_cons (pv 0) pk_nil) (by rfl))) pa_nil))))))
      (pss_cons (ps_set (i := 1) sc_lw_fields.nd rfl (Or.inl rfl) (pe_op op_cat (pv 1) (pe_lst (pa_cons (show PE _ _ (tEvf Z.K _ _) from pe_evf (pe_evK' (hE 21 _ _ rfl) fl_value fk_value hr (pk_cons (pv 0) pk_nil) (by rfl))) (pa_cons (show PE _ _ (tEvf Z.K _ _) from pe_evf (pe_evK' (hE 22 _ _ rfl) fl_value fk_value hr (pk_cons (pv 0) pk_nil) (by rfl))) (pa_cons (show PE _ _ (tEvf Z.K _ _) from pe_evf (pe_evK' (hE 23 _ _ rfl) fl_word fk_word hr (pk_cons (pv 0) pk_nil) (by rfl))) pa_nil))))))
      (pss_one (ps_ret (pe_op op_cat (pv 1) (pe_lst (pa_cons (show PE _ _ (tEvf Z.K _ _) from pe_evf (pe_evK' (hE 24 _ _ rfl) fl_name fk_name hr (pk_cons (pv 0) pk_nil) (by rfl))) pa_nil))))))))))))), ?_⟩
    have e0 : Same H H := Same.refl _
    refine ⟨v, rfl, v, rfl, fun a1 d1 ha1 hd1 hn1 => ⟨a1, _, d1, [(_, v)], v, rfl, upd_same, (by unfold evPut; rw [upd_ne hn1]; exact upd_same), (hE 0 _ _ rfl).xf, (hE 0 _ _ rfl).no, lookup_one, ?_⟩⟩
    have e1' : Same _ (evPut H a1 d1 (CC "BadArgument") "value" v) := Same.ev ha1 hd1 hn1
    generalize evPut H a1 d1 (CC "BadArgument") "value" v = H1 at e1'
    have e1 := e0.trans e1'
    refine ⟨v, rfl, v, rfl, fun a2 d2 ha2 hd2 hn2 => ⟨a2, _, d2, [(_, v)], v, rfl, upd_same, (by unfold evPut; rw [upd_ne hn2]; exact upd_same), (hE 1 _ _ rfl).xf, (hE 1 _ _ rfl).no, lookup_one, ?_⟩⟩
    have e2' : Same _ (evPut H1 a2 d2 (CC "BadPrice") "value" v) := Same.ev ha2 hd2 hn2
    generalize evPut H1 a2 d2 (CC "BadPrice") "value" v = H2 at e2'
    have e2 := e1.trans e2'
    refine ⟨v, rfl, v, rfl, fun a3 d3 ha3 hd3 hn3 => ⟨a3, _, d3, [(_, v)], v, rfl, upd_same, (by unfold evPut; rw [upd_ne hn3]; exact upd_same), (hE 2 _ _ rfl).xf, (hE 2 _ _ rfl).no, lookup_one, ?_⟩⟩
    have e3' : Same _ (evPut H2 a3 d3 (CC "BadBook") "field" v) := Same.ev ha3 hd3 hn3
    generalize evPut H2 a3 d3 (CC "BadBook") "field" v = H3 at e3'
    have e3 := e2.trans e3'
    refine ⟨(by show 3 ≤ sizeLine; decide), fun p4 hp4 => ?_⟩
    have e4 := e3.trans (Same.upd (o := .lst [v, v, v]) hp4)
    have hl : (upd H3 p4 (.lst [v, v, v])) p4 = some (.lst [v, v, v]) := upd_same
    generalize upd H3 p4 (.lst [v, v, v]) = H4 at e4 hl
    refine ⟨_, rfl, ?_⟩
    refine ⟨v, rfl, v, rfl, fun a5 d5 ha5 hd5 hn5 => ⟨a5, _, d5, [(_, v)], v, rfl, upd_same, (by unfold evPut; rw [upd_ne hn5]; exact upd_same), (hE 3 _ _ rfl).xf, (hE 3 _ _ rfl).no, lookup_one, ?_⟩⟩
    have e5' : Same _ (evPut H4 a5 d5 (CC "BadState") "value" v) := Same.ev ha5 hd5 hn5
    generalize evPut H4 a5 d5 (CC "BadState") "value" v = H5 at e5'
    have e5 := e4.trans e5'
    have hl := e5' _ _ hl
    refine ⟨v, rfl, v, rfl, fun a6 d6 ha6 hd6 hn6 => ⟨a6, _, d6, [(_, v)], v, rfl, upd_same, (by unfold evPut; rw [upd_ne hn6]; exact upd_same), (hE 4 _ _ rfl).xf, (hE 4 _ _ rfl).no, lookup_one, ?_⟩⟩
    have e6' : Same _ (evPut H5 a6 d6 (CC "BadRow") "value" v) := Same.ev ha6 hd6 hn6
    generalize evPut H5 a6 d6 (CC "BadRow") "value" v = H6 at e6'
    have e6 := e5.trans e6'
    have hl := e6' _ _ hl
    refine ⟨v, rfl, v, rfl, fun a7 d7 ha7 hd7 hn7 => ⟨a7, _, d7, [(_, v)], v, rfl, upd_same, (by unfold evPut; rw [upd_ne hn7]; exact upd_same), (hE 5 _ _ rfl).xf, (hE 5 _ _ rfl).no, lookup_one, ?_⟩⟩
    have e7' : Same _ (evPut H6 a7 d7 (CC "BadParts") "value" v) := Same.ev ha7 hd7 hn7
    generalize evPut H6 a7 d7 (CC "BadParts") "value" v = H7 at e7'
    have e7 := e6.trans e7'
    have hl := e7' _ _ hl
    refine ⟨(by show 3 ≤ sizeLine; decide), fun p8 hp8 => ?_⟩
    refine ⟨_, _, _, _, rfl, rfl, Same.upd hp8 _ _ hl, upd_same, (by show 6 ≤ sizeLine; decide), fun q8 hq8 => ?_⟩
    have e8 := (e7.trans (Same.upd (o := .lst [v, v, v]) hp8)).trans (Same.upd (o := .lst ([v, v, v] ++ [v, v, v])) hq8)
    replace hl : (upd (upd H7 p8 (.lst [v, v, v])) q8 (.lst ([v, v, v] ++ [v, v, v]))) q8 = some (.lst [v, v, v, v, v, v]) := upd_same
    generalize (upd (upd H7 p8 (.lst [v, v, v])) q8 (.lst ([v, v, v] ++ [v, v, v]))) = H8 at e8 hl
    refine ⟨_, rfl, ?_⟩
    refine ⟨v, rfl, v, rfl, fun a9 d9 ha9 hd9 hn9 => ⟨a9, _, d9, [(_, v)], v, rfl, upd_same, (by unfold evPut; rw [upd_ne hn9]; exact upd_same), (hE 6 _ _ rfl).xf, (hE 6 _ _ rfl).no, lookup_one, ?_⟩⟩
    have e9' : Same _ (evPut H8 a9 d9 (CC "BadRows") "field" v) := Same.ev ha9 hd9 hn9
    generalize evPut H8 a9 d9 (CC "BadRows") "field" v = H9 at e9'
    have e9 := e8.trans e9'
    have hl := e9' _ _ hl
    refine ⟨v, rfl, v, rfl, fun a10 d10 ha10 hd10 hn10 => ⟨a10, _, d10, [(_, v)], v, rfl, upd_same, (by unfold evPut; rw [upd_ne hn10]; exact upd_same), (hE 7 _ _ rfl).xf, (hE 7 _ _ rfl).no, lookup_one, ?_⟩⟩
    have e10' : Same _ (evPut H9 a10 d10 (CC "BadSort") "value" v) := Same.ev ha10 hd10 hn10
    generalize evPut H9 a10 d10 (CC "BadSort") "value" v = H10 at e10'
    have e10 := e9.trans e10'
    have hl := e10' _ _ hl
    refine ⟨v, rfl, v, rfl, fun a11 d11 ha11 hd11 hn11 => ⟨a11, _, d11, [(_, v)], v, rfl, upd_same, (by unfold evPut; rw [upd_ne hn11]; exact upd_same), (hE 8 _ _ rfl).xf, (hE 8 _ _ rfl).no, lookup_one, ?_⟩⟩
    have e11' : Same _ (evPut H10 a11 d11 (CC "BadNumber") "value" v) := Same.ev ha11 hd11 hn11
    generalize evPut H10 a11 d11 (CC "BadNumber") "value" v = H11 at e11'
    have e11 := e10.trans e11'
    have hl := e11' _ _ hl
    refine ⟨(by show 3 ≤ sizeLine; decide), fun p12 hp12 => ?_⟩
    refine ⟨_, _, _, _, rfl, rfl, Same.upd hp12 _ _ hl, upd_same, (by show 9 ≤ sizeLine; decide), fun q12 hq12 => ?_⟩
    have e12 := (e11.trans (Same.upd (o := .lst [v, v, v]) hp12)).trans (Same.upd (o := .lst ([v, v, v, v, v, v] ++ [v, v, v])) hq12)
    replace hl : (upd (upd H11 p12 (.lst [v, v, v])) q12 (.lst ([v, v, v, v, v, v] ++ [v, v, v]))) q12 = some (.lst [v, v, v, v, v, v, v, v, v]) := upd_same
    generalize (upd (upd H11 p12 (.lst [v, v, v])) q12 (.lst ([v, v, v, v, v, v] ++ [v, v, v]))) = H12 at e12 hl
    refine ⟨_, rfl, ?_⟩
    refine ⟨v, rfl, v, rfl, fun a13 d13 ha13 hd13 hn13 => ⟨a13, _, d13, [(_, v)], v, rfl, upd_same, (by unfold evPut; rw [upd_ne hn13]; exact upd_same), (hE 9 _ _ rfl).xf, (hE 9 _ _ rfl).no, lookup_one, ?_⟩⟩
    have e13' : Same _ (evPut H12 a13 d13 (CC "BadPlan") "value" v) := Same.ev ha13 hd13 hn13
    generalize evPut H12 a13 d13 (CC "BadPlan") "value" v = H13 at e13'
    have e13 := e12.trans e13'
    have hl := e13' _ _ hl
    refine ⟨v, rfl, v, rfl, fun a14 d14 ha14 hd14 hn14 => ⟨a14, _, d14, [(_, v)], v, rfl, upd_same, (by unfold evPut; rw [upd_ne hn14]; exact upd_same), (hE 10 _ _ rfl).xf, (hE 10 _ _ rfl).no, lookup_one, ?_⟩⟩
    have e14' : Same _ (evPut H13 a14 d14 (CC "BadWay") "value" v) := Same.ev ha14 hd14 hn14
    generalize evPut H13 a14 d14 (CC "BadWay") "value" v = H14 at e14'
    have e14 := e13.trans e14'
    have hl := e14' _ _ hl
    refine ⟨v, rfl, v, rfl, fun a15 d15 ha15 hd15 hn15 => ⟨a15, _, d15, [(_, v)], v, rfl, upd_same, (by unfold evPut; rw [upd_ne hn15]; exact upd_same), (hE 11 _ _ rfl).xf, (hE 11 _ _ rfl).no, lookup_one, ?_⟩⟩
    have e15' : Same _ (evPut H14 a15 d15 (CC "NoNode") "value" v) := Same.ev ha15 hd15 hn15
    generalize evPut H14 a15 d15 (CC "NoNode") "value" v = H15 at e15'
    have e15 := e14.trans e15'
    have hl := e15' _ _ hl
    refine ⟨(by show 3 ≤ sizeLine; decide), fun p16 hp16 => ?_⟩
    refine ⟨_, _, _, _, rfl, rfl, Same.upd hp16 _ _ hl, upd_same, (by show 12 ≤ sizeLine; decide), fun q16 hq16 => ?_⟩
    have e16 := (e15.trans (Same.upd (o := .lst [v, v, v]) hp16)).trans (Same.upd (o := .lst ([v, v, v, v, v, v, v, v, v] ++ [v, v, v])) hq16)
    replace hl : (upd (upd H15 p16 (.lst [v, v, v])) q16 (.lst ([v, v, v, v, v, v, v, v, v] ++ [v, v, v]))) q16 = some (.lst [v, v, v, v, v, v, v, v, v, v, v, v]) := upd_same
    generalize (upd (upd H15 p16 (.lst [v, v, v])) q16 (.lst ([v, v, v, v, v, v, v, v, v] ++ [v, v, v]))) = H16 at e16 hl
    refine ⟨_, rfl, ?_⟩
    refine ⟨v, rfl, v, rfl, fun a17 d17 ha17 hd17 hn17 => ⟨a17, _, d17, [(_, v)], v, rfl, upd_same, (by unfold evPut; rw [upd_ne hn17]; exact upd_same), (hE 12 _ _ rfl).xf, (hE 12 _ _ rfl).no, lookup_one, ?_⟩⟩
    have e17' : Same _ (evPut H16 a17 d17 (CC "TooLarge") "number" v) := Same.ev ha17 hd17 hn17
    generalize evPut H16 a17 d17 (CC "TooLarge") "number" v = H17 at e17'
    have e17 := e16.trans e17'
    have hl := e17' _ _ hl
    refine ⟨v, rfl, v, rfl, fun a18 d18 ha18 hd18 hn18 => ⟨a18, _, d18, [(_, v)], v, rfl, upd_same, (by unfold evPut; rw [upd_ne hn18]; exact upd_same), (hE 13 _ _ rfl).xf, (hE 13 _ _ rfl).no, lookup_one, ?_⟩⟩
    have e18' : Same _ (evPut H17 a18 d18 (CC "BadMenu") "value" v) := Same.ev ha18 hd18 hn18
    generalize evPut H17 a18 d18 (CC "BadMenu") "value" v = H18 at e18'
    have e18 := e17.trans e18'
    have hl := e18' _ _ hl
    refine ⟨v, rfl, v, rfl, fun a19 d19 ha19 hd19 hn19 => ⟨a19, _, d19, [(_, v)], v, rfl, upd_same, (by unfold evPut; rw [upd_ne hn19]; exact upd_same), (hE 14 _ _ rfl).xf, (hE 14 _ _ rfl).no, lookup_one, ?_⟩⟩
    have e19' : Same _ (evPut H18 a19 d19 (CC "BadChange") "value" v) := Same.ev ha19 hd19 hn19
    generalize evPut H18 a19 d19 (CC "BadChange") "value" v = H19 at e19'
    have e19 := e18.trans e19'
    have hl := e19' _ _ hl
    refine ⟨(by show 3 ≤ sizeLine; decide), fun p20 hp20 => ?_⟩
    refine ⟨_, _, _, _, rfl, rfl, Same.upd hp20 _ _ hl, upd_same, (by show 15 ≤ sizeLine; decide), fun q20 hq20 => ?_⟩
    have e20 := (e19.trans (Same.upd (o := .lst [v, v, v]) hp20)).trans (Same.upd (o := .lst ([v, v, v, v, v, v, v, v, v, v, v, v] ++ [v, v, v])) hq20)
    replace hl : (upd (upd H19 p20 (.lst [v, v, v])) q20 (.lst ([v, v, v, v, v, v, v, v, v, v, v, v] ++ [v, v, v]))) q20 = some (.lst [v, v, v, v, v, v, v, v, v, v, v, v, v, v, v]) := upd_same
    generalize (upd (upd H19 p20 (.lst [v, v, v])) q20 (.lst ([v, v, v, v, v, v, v, v, v, v, v, v] ++ [v, v, v]))) = H20 at e20 hl
    refine ⟨_, rfl, ?_⟩
    refine ⟨v, rfl, v, rfl, fun a21 d21 ha21 hd21 hn21 => ⟨a21, _, d21, [(_, v)], v, rfl, upd_same, (by unfold evPut; rw [upd_ne hn21]; exact upd_same), (hE 15 _ _ rfl).xf, (hE 15 _ _ rfl).no, lookup_one, ?_⟩⟩
    have e21' : Same _ (evPut H20 a21 d21 (CC "BadText") "at" v) := Same.ev ha21 hd21 hn21
    generalize evPut H20 a21 d21 (CC "BadText") "at" v = H21 at e21'
    have e21 := e20.trans e21'
    have hl := e21' _ _ hl
    refine ⟨v, rfl, v, rfl, fun a22 d22 ha22 hd22 hn22 => ⟨a22, _, d22, [(_, v)], v, rfl, upd_same, (by unfold evPut; rw [upd_ne hn22]; exact upd_same), (hE 16 _ _ rfl).xf, (hE 16 _ _ rfl).no, lookup_one, ?_⟩⟩
    have e22' : Same _ (evPut H21 a22 d22 (CC "BadName") "value" v) := Same.ev ha22 hd22 hn22
    generalize evPut H21 a22 d22 (CC "BadName") "value" v = H22 at e22'
    have e22 := e21.trans e22'
    have hl := e22' _ _ hl
    refine ⟨v, rfl, v, rfl, fun a23 d23 ha23 hd23 hn23 => ⟨a23, _, d23, [(_, v)], v, rfl, upd_same, (by unfold evPut; rw [upd_ne hn23]; exact upd_same), (hE 17 _ _ rfl).xf, (hE 17 _ _ rfl).no, lookup_one, ?_⟩⟩
    have e23' : Same _ (evPut H22 a23 d23 (CC "NameTaken") "name" v) := Same.ev ha23 hd23 hn23
    generalize evPut H22 a23 d23 (CC "NameTaken") "name" v = H23 at e23'
    have e23 := e22.trans e23'
    have hl := e23' _ _ hl
    refine ⟨(by show 3 ≤ sizeLine; decide), fun p24 hp24 => ?_⟩
    refine ⟨_, _, _, _, rfl, rfl, Same.upd hp24 _ _ hl, upd_same, (by show 18 ≤ sizeLine; decide), fun q24 hq24 => ?_⟩
    have e24 := (e23.trans (Same.upd (o := .lst [v, v, v]) hp24)).trans (Same.upd (o := .lst ([v, v, v, v, v, v, v, v, v, v, v, v, v, v, v] ++ [v, v, v])) hq24)
    replace hl : (upd (upd H23 p24 (.lst [v, v, v])) q24 (.lst ([v, v, v, v, v, v, v, v, v, v, v, v, v, v, v] ++ [v, v, v]))) q24 = some (.lst [v, v, v, v, v, v, v, v, v, v, v, v, v, v, v, v, v, v]) := upd_same
    generalize (upd (upd H23 p24 (.lst [v, v, v])) q24 (.lst ([v, v, v, v, v, v, v, v, v, v, v, v, v, v, v] ++ [v, v, v]))) = H24 at e24 hl
    refine ⟨_, rfl, ?_⟩
    refine ⟨v, rfl, v, rfl, fun a25 d25 ha25 hd25 hn25 => ⟨a25, _, d25, [(_, v)], v, rfl, upd_same, (by unfold evPut; rw [upd_ne hn25]; exact upd_same), (hE 18 _ _ rfl).xf, (hE 18 _ _ rfl).no, lookup_one, ?_⟩⟩
    have e25' : Same _ (evPut H24 a25 d25 (CC "Dearer") "paper" v) := Same.ev ha25 hd25 hn25
    generalize evPut H24 a25 d25 (CC "Dearer") "paper" v = H25 at e25'
    have e25 := e24.trans e25'
    have hl := e25' _ _ hl
    refine ⟨v, rfl, v, rfl, fun a26 d26 ha26 hd26 hn26 => ⟨a26, _, d26, [(_, v)], v, rfl, upd_same, (by unfold evPut; rw [upd_ne hn26]; exact upd_same), (hE 19 _ _ rfl).xf, (hE 19 _ _ rfl).no, lookup_one, ?_⟩⟩
    have e26' : Same _ (evPut H25 a26 d26 (CC "FailedDeed") "at" v) := Same.ev ha26 hd26 hn26
    generalize evPut H25 a26 d26 (CC "FailedDeed") "at" v = H26 at e26'
    have e26 := e25.trans e26'
    have hl := e26' _ _ hl
    refine ⟨v, rfl, v, rfl, fun a27 d27 ha27 hd27 hn27 => ⟨a27, _, d27, [(_, v)], v, rfl, upd_same, (by unfold evPut; rw [upd_ne hn27]; exact upd_same), (hE 20 _ _ rfl).xf, (hE 20 _ _ rfl).no, lookup_one, ?_⟩⟩
    have e27' : Same _ (evPut H26 a27 d27 (CC "BadCommand") "line" v) := Same.ev ha27 hd27 hn27
    generalize evPut H26 a27 d27 (CC "BadCommand") "line" v = H27 at e27'
    have e27 := e26.trans e27'
    have hl := e27' _ _ hl
    refine ⟨(by show 3 ≤ sizeLine; decide), fun p28 hp28 => ?_⟩
    refine ⟨_, _, _, _, rfl, rfl, Same.upd hp28 _ _ hl, upd_same, (by show 21 ≤ sizeLine; decide), fun q28 hq28 => ?_⟩
    have e28 := (e27.trans (Same.upd (o := .lst [v, v, v]) hp28)).trans (Same.upd (o := .lst ([v, v, v, v, v, v, v, v, v, v, v, v, v, v, v, v, v, v] ++ [v, v, v])) hq28)
    replace hl : (upd (upd H27 p28 (.lst [v, v, v])) q28 (.lst ([v, v, v, v, v, v, v, v, v, v, v, v, v, v, v, v, v, v] ++ [v, v, v]))) q28 = some (.lst [v, v, v, v, v, v, v, v, v, v, v, v, v, v, v, v, v, v, v, v, v]) := upd_same
    generalize (upd (upd H27 p28 (.lst [v, v, v])) q28 (.lst ([v, v, v, v, v, v, v, v, v, v, v, v, v, v, v, v, v, v] ++ [v, v, v]))) = H28 at e28 hl
    refine ⟨_, rfl, ?_⟩
    refine ⟨v, rfl, v, rfl, fun a29 d29 ha29 hd29 hn29 => ⟨a29, _, d29, [(_, v)], v, rfl, upd_same, (by unfold evPut; rw [upd_ne hn29]; exact upd_same), (hE 21 _ _ rfl).xf, (hE 21 _ _ rfl).no, lookup_one, ?_⟩⟩
    have e29' : Same _ (evPut H28 a29 d29 (CC "BadShare") "value" v) := Same.ev ha29 hd29 hn29
    generalize evPut H28 a29 d29 (CC "BadShare") "value" v = H29 at e29'
    have e29 := e28.trans e29'
    have hl := e29' _ _ hl
    refine ⟨v, rfl, v, rfl, fun a30 d30 ha30 hd30 hn30 => ⟨a30, _, d30, [(_, v)], v, rfl, upd_same, (by unfold evPut; rw [upd_ne hn30]; exact upd_same), (hE 22 _ _ rfl).xf, (hE 22 _ _ rfl).no, lookup_one, ?_⟩⟩
    have e30' : Same _ (evPut H29 a30 d30 (CC "DividedByNothing") "value" v) := Same.ev ha30 hd30 hn30
    generalize evPut H29 a30 d30 (CC "DividedByNothing") "value" v = H30 at e30'
    have e30 := e29.trans e30'
    have hl := e30' _ _ hl
    refine ⟨v, rfl, v, rfl, fun a31 d31 ha31 hd31 hn31 => ⟨a31, _, d31, [(_, v)], v, rfl, upd_same, (by unfold evPut; rw [upd_ne hn31]; exact upd_same), (hE 23 _ _ rfl).xf, (hE 23 _ _ rfl).no, lookup_one, ?_⟩⟩
    have e31' : Same _ (evPut H30 a31 d31 (CC "BadKind") "word" v) := Same.ev ha31 hd31 hn31
    generalize evPut H30 a31 d31 (CC "BadKind") "word" v = H31 at e31'
    have e31 := e30.trans e31'
    have hl := e31' _ _ hl
    refine ⟨(by show 3 ≤ sizeLine; decide), fun p32 hp32 => ?_⟩
    refine ⟨_, _, _, _, rfl, rfl, Same.upd hp32 _ _ hl, upd_same, (by show 24 ≤ sizeLine; decide), fun q32 hq32 => ?_⟩
    have e32 := (e31.trans (Same.upd (o := .lst [v, v, v]) hp32)).trans (Same.upd (o := .lst ([v, v, v, v, v, v, v, v, v, v, v, v, v, v, v, v, v, v, v, v, v] ++ [v, v, v])) hq32)
    replace hl : (upd (upd H31 p32 (.lst [v, v, v])) q32 (.lst ([v, v, v, v, v, v, v, v, v, v, v, v, v, v, v, v, v, v, v, v, v] ++ [v, v, v]))) q32 = some (.lst [v, v, v, v, v, v, v, v, v, v, v, v, v, v, v, v, v, v, v, v, v, v, v, v]) := upd_same
    generalize (upd (upd H31 p32 (.lst [v, v, v])) q32 (.lst ([v, v, v, v, v, v, v, v, v, v, v, v, v, v, v, v, v, v, v, v, v] ++ [v, v, v]))) = H32 at e32 hl
    refine ⟨_, rfl, ?_⟩
    refine ⟨v, rfl, v, rfl, fun a33 d33 ha33 hd33 hn33 => ⟨a33, _, d33, [(_, v)], v, rfl, upd_same, (by unfold evPut; rw [upd_ne hn33]; exact upd_same), (hE 24 _ _ rfl).xf, (hE 24 _ _ rfl).no, lookup_one, ?_⟩⟩
    have e33' : Same _ (evPut H32 a33 d33 (CC "UnknownName") "name" v) := Same.ev ha33 hd33 hn33
    generalize evPut H32 a33 d33 (CC "UnknownName") "name" v = H33 at e33'
    have e33 := e32.trans e33'
    have hl := e33' _ _ hl
    refine ⟨(by show 1 ≤ sizeLine; decide), fun p34 hp34 => ?_⟩
    refine ⟨_, _, _, _, rfl, rfl, Same.upd hp34 _ _ hl, upd_same, (by show 25 ≤ sizeLine; decide), fun q34 hq34 => ?_⟩
    exact k q34 _ ((e33.trans (Same.upd hp34)).trans (Same.upd hq34)) ((e33.trans (Same.upd hp34)).free hq34) upd_same
end
end Ps

/-! k43: objects. -/
namespace Ps
open PySem PySem.Spec PyProof.Rows PySem.W L2

theorem evAt_put {H : Hp} {e d C : Addr} {fl : Str} {v : V} (hn : d ≠ e) : EvAt (evPut H e d C fl v) (.ref e) C := by
  refine ⟨e, some d, rfl, upd_same, fun dd z => ?_⟩
  cases z
  exact ⟨_, by unfold evPut; rw [upd_ne hn]; exact upd_same⟩
def cls26 : List Str := ["BadArgument", "BadPrice", "BadBook", "BadState", "BadRow", "BadParts", "BadRows", "BadSort", "BadNumber", "BadPlan", "BadWay", "NoNode", "TooLarge", "BadMenu", "BadChange", "BadText", "BadName", "NameTaken", "Dearer", "NothingToUndo", "FailedDeed", "BadCommand", "BadShare", "DividedByNothing", "BadKind", "UnknownName"]
def spObjects (CC : Str → Addr) : Sp := fun vs H Q _ => ∃ v, vs = [v] ∧ ∀ p H' ws, Same H H' → H p = none → H' p = some (.lst ws) → Al (fun w x => EvAt H' w (CC x)) ws cls26 → Q (.ref p) H'
section
variable {Z : Cz} {f : Addr} {fd : FuncData} {CC : Str → Addr} {bm : List Value}
theorem ok_objects (F : Fun Z.K "_law_objects" "_law_objects" s_lw_objects f fd) (hE : ∀ (i : Nat) (x fl : Str), errs[i]? = some (x, fl) → ExE Z CC x fl) (h0 : excIn Z.K (CC "NothingToUndo") ESX.exTail "Exception.__new__" = true) (g0 : Z.mg "NothingToUndo" = some (.ref (CC "NothingToUndo"))) (k0 : keepIn Z.K (.ref (CC "NothingToUndo")) = true) : Z.ok CX0 3 f fd ["_law_thing"] (spObjects CC) := by
  refine F.ok sc_lw_objects (fun vs H Q E h => ?_) (fun cdv A outer s H vs Q E hr h => ?_)
  · obtain ⟨v, rfl, _⟩ := h
    rfl
  · obtain ⟨v, rfl, k⟩ := h
    refine ⟨_, (pss_cons (ps_set (i := 1) sc_lw_objects.nd rfl (Or.inl rfl) (pe_lst (pa_cons (pe_ev' (hE 0 _ _ rfl) fl_value hr (pa_cons (pv 0) pa_nil) (by rfl)) (pa_cons (pe_ev' (hE 1 _ _ rfl) fl_value hr (pa_cons (pv 0) pa_nil) (by rfl)) (pa_cons (pe_ev' (hE 2 _ _ rfl) fl_field hr (pa_cons (pv 0) pa_nil) (by rfl)) (pa_cons (pe_ev' (hE 3 _ _ rfl) fl_value hr (pa_cons (pv 0) pa_nil) (by rfl)) (pa_cons (pe_ev' (hE 4 _ _ rfl) fl_value hr (pa_cons (pv 0) pa_nil) (by rfl)) (pa_cons (pe_ev' (hE 5 _ _ rfl) fl_value hr (pa_cons (pv 0) pa_nil) (by rfl)) pa_nil))))))))
      (pss_cons (ps_set (i := 1) sc_lw_objects.nd rfl (Or.inl rfl) (pe_op op_cat (pv 1) (pe_lst (pa_cons (pe_ev' (hE 6 _ _ rfl) fl_field hr (pa_cons (pv 0) pa_nil) (by rfl)) (pa_cons (pe_ev' (hE 7 _ _ rfl) fl_value hr (pa_cons (pv 0) pa_nil) (by rfl)) (pa_cons (pe_ev' (hE 8 _ _ rfl) fl_value hr (pa_cons (pv 0) pa_nil) (by rfl)) (pa_cons (pe_ev' (hE 9 _ _ rfl) fl_value hr (pa_cons (pv 0) pa_nil) (by rfl)) (pa_cons (pe_ev' (hE 10 _ _ rfl) fl_value hr (pa_cons (pv 0) pa_nil) (by rfl)) (pa_cons (pe_ev' (hE 11 _ _ rfl) fl_value hr (pa_cons (pv 0) pa_nil) (by rfl)) pa_nil)))))))))
      (pss_cons (ps_set (i := 1) sc_lw_objects.nd rfl (Or.inl rfl) (pe_op op_cat (pv 1) (pe_lst (pa_cons (pe_ev' (hE 12 _ _ rfl) fl_number hr (pa_cons (pv 0) pa_nil) (by rfl)) (pa_cons (pe_ev' (hE 13 _ _ rfl) fl_value hr (pa_cons (pv 0) pa_nil) (by rfl)) (pa_cons (pe_ev' (hE 14 _ _ rfl) fl_value hr (pa_cons (pv 0) pa_nil) (by rfl)) (pa_cons (pe_ev' (hE 15 _ _ rfl) fl_atx hr (pa_cons (pv 0) pa_nil) (by rfl)) (pa_cons (pe_ev' (hE 16 _ _ rfl) fl_value hr (pa_cons (pv 0) pa_nil) (by rfl)) pa_nil))))))))
      (pss_cons (ps_set (i := 1) sc_lw_objects.nd rfl (Or.inl rfl) (pe_op op_cat (pv 1) (pe_lst (pa_cons (pe_ev' (hE 17 _ _ rfl) fl_name hr (pa_cons (pv 0) pa_nil) (by rfl)) (pa_cons (pe_ev' (hE 18 _ _ rfl) fl_paper hr (pa_cons (pv 0) pa_nil) (by rfl)) (pa_cons (pe_ev0 PySem.F.excBase_Exception h0 g0 k0 (by rfl)) (pa_cons (pe_ev' (hE 19 _ _ rfl) fl_atx hr (pa_cons (pv 0) pa_nil) (by rfl)) (pa_cons (pe_ev' (hE 20 _ _ rfl) fl_line hr (pa_cons (pv 0) pa_nil) (by rfl)) pa_nil))))))))
      (pss_one (ps_ret (pe_op op_cat (pv 1) (pe_lst (pa_cons (pe_ev' (hE 21 _ _ rfl) fl_value hr (pa_cons (pv 0) pa_nil) (by rfl)) (pa_cons (pe_ev' (hE 22 _ _ rfl) fl_value hr (pa_cons (pv 0) pa_nil) (by rfl)) (pa_cons (pe_ev' (hE 23 _ _ rfl) fl_word hr (pa_cons (pv 0) pa_nil) (by rfl)) (pa_cons (pe_ev' (hE 24 _ _ rfl) fl_name hr (pa_cons (pv 0) pa_nil) (by rfl)) pa_nil)))))))))))), ?_⟩
    have e0 : Same H H := Same.refl _
    refine ⟨v, rfl, v, rfl, fun a1 d1 ha1 hd1 hn1 => ?_⟩
    have e1' : Same _ (evPut H a1 d1 (CC "BadArgument") "value" v) := Same.ev ha1 hd1 hn1
    have E1 : EvAt (evPut H a1 d1 (CC "BadArgument") "value" v) (.ref a1) (CC "BadArgument") := evAt_put hn1
    generalize evPut H a1 d1 (CC "BadArgument") "value" v = H1 at e1' E1
    have e1 := e0.trans e1'
    refine ⟨v, rfl, v, rfl, fun a2 d2 ha2 hd2 hn2 => ?_⟩
    have e2' : Same _ (evPut H1 a2 d2 (CC "BadPrice") "value" v) := Same.ev ha2 hd2 hn2
    have E2 : EvAt (evPut H1 a2 d2 (CC "BadPrice") "value" v) (.ref a2) (CC "BadPrice") := evAt_put hn2
    generalize evPut H1 a2 d2 (CC "BadPrice") "value" v = H2 at e2' E2
    have e2 := e1.trans e2'
    refine ⟨v, rfl, v, rfl, fun a3 d3 ha3 hd3 hn3 => ?_⟩
    have e3' : Same _ (evPut H2 a3 d3 (CC "BadBook") "field" v) := Same.ev ha3 hd3 hn3
    have E3 : EvAt (evPut H2 a3 d3 (CC "BadBook") "field" v) (.ref a3) (CC "BadBook") := evAt_put hn3
    generalize evPut H2 a3 d3 (CC "BadBook") "field" v = H3 at e3' E3
    have e3 := e2.trans e3'
    refine ⟨v, rfl, v, rfl, fun a4 d4 ha4 hd4 hn4 => ?_⟩
    have e4' : Same _ (evPut H3 a4 d4 (CC "BadState") "value" v) := Same.ev ha4 hd4 hn4
    have E4 : EvAt (evPut H3 a4 d4 (CC "BadState") "value" v) (.ref a4) (CC "BadState") := evAt_put hn4
    generalize evPut H3 a4 d4 (CC "BadState") "value" v = H4 at e4' E4
    have e4 := e3.trans e4'
    refine ⟨v, rfl, v, rfl, fun a5 d5 ha5 hd5 hn5 => ?_⟩
    have e5' : Same _ (evPut H4 a5 d5 (CC "BadRow") "value" v) := Same.ev ha5 hd5 hn5
    have E5 : EvAt (evPut H4 a5 d5 (CC "BadRow") "value" v) (.ref a5) (CC "BadRow") := evAt_put hn5
    generalize evPut H4 a5 d5 (CC "BadRow") "value" v = H5 at e5' E5
    have e5 := e4.trans e5'
    refine ⟨v, rfl, v, rfl, fun a6 d6 ha6 hd6 hn6 => ?_⟩
    have e6' : Same _ (evPut H5 a6 d6 (CC "BadParts") "value" v) := Same.ev ha6 hd6 hn6
    have E6 : EvAt (evPut H5 a6 d6 (CC "BadParts") "value" v) (.ref a6) (CC "BadParts") := evAt_put hn6
    generalize evPut H5 a6 d6 (CC "BadParts") "value" v = H6 at e6' E6
    have e6 := e5.trans e6'
    refine ⟨(by show 6 ≤ sizeLine; decide), fun p7 hp7 => ?_⟩
    have e7' : Same H6 (upd H6 p7 (.lst [.ref a1, .ref a2, .ref a3, .ref a4, .ref a5, .ref a6])) := Same.upd hp7
    have hl : (upd H6 p7 (.lst [.ref a1, .ref a2, .ref a3, .ref a4, .ref a5, .ref a6])) p7 = some (.lst [.ref a1, .ref a2, .ref a3, .ref a4, .ref a5, .ref a6]) := upd_same
    generalize upd H6 p7 (.lst [.ref a1, .ref a2, .ref a3, .ref a4, .ref a5, .ref a6]) = H7 at e7' hl
    have e7 := e6.trans e7'
    refine ⟨_, rfl, ?_⟩
    refine ⟨v, rfl, v, rfl, fun a8 d8 ha8 hd8 hn8 => ?_⟩
    have e8' : Same _ (evPut H7 a8 d8 (CC "BadRows") "field" v) := Same.ev ha8 hd8 hn8
    have E8 : EvAt (evPut H7 a8 d8 (CC "BadRows") "field" v) (.ref a8) (CC "BadRows") := evAt_put hn8
    generalize evPut H7 a8 d8 (CC "BadRows") "field" v = H8 at e8' E8
    have e8 := e7.trans e8'
    replace hl := e8' _ _ hl
    refine ⟨v, rfl, v, rfl, fun a9 d9 ha9 hd9 hn9 => ?_⟩
    have e9' : Same _ (evPut H8 a9 d9 (CC "BadSort") "value" v) := Same.ev ha9 hd9 hn9
    have E9 : EvAt (evPut H8 a9 d9 (CC "BadSort") "value" v) (.ref a9) (CC "BadSort") := evAt_put hn9
    generalize evPut H8 a9 d9 (CC "BadSort") "value" v = H9 at e9' E9
    have e9 := e8.trans e9'
    replace hl := e9' _ _ hl
    refine ⟨v, rfl, v, rfl, fun a10 d10 ha10 hd10 hn10 => ?_⟩
    have e10' : Same _ (evPut H9 a10 d10 (CC "BadNumber") "value" v) := Same.ev ha10 hd10 hn10
    have E10 : EvAt (evPut H9 a10 d10 (CC "BadNumber") "value" v) (.ref a10) (CC "BadNumber") := evAt_put hn10
    generalize evPut H9 a10 d10 (CC "BadNumber") "value" v = H10 at e10' E10
    have e10 := e9.trans e10'
    replace hl := e10' _ _ hl
    refine ⟨v, rfl, v, rfl, fun a11 d11 ha11 hd11 hn11 => ?_⟩
    have e11' : Same _ (evPut H10 a11 d11 (CC "BadPlan") "value" v) := Same.ev ha11 hd11 hn11
    have E11 : EvAt (evPut H10 a11 d11 (CC "BadPlan") "value" v) (.ref a11) (CC "BadPlan") := evAt_put hn11
    generalize evPut H10 a11 d11 (CC "BadPlan") "value" v = H11 at e11' E11
    have e11 := e10.trans e11'
    replace hl := e11' _ _ hl
    refine ⟨v, rfl, v, rfl, fun a12 d12 ha12 hd12 hn12 => ?_⟩
    have e12' : Same _ (evPut H11 a12 d12 (CC "BadWay") "value" v) := Same.ev ha12 hd12 hn12
    have E12 : EvAt (evPut H11 a12 d12 (CC "BadWay") "value" v) (.ref a12) (CC "BadWay") := evAt_put hn12
    generalize evPut H11 a12 d12 (CC "BadWay") "value" v = H12 at e12' E12
    have e12 := e11.trans e12'
    replace hl := e12' _ _ hl
    refine ⟨v, rfl, v, rfl, fun a13 d13 ha13 hd13 hn13 => ?_⟩
    have e13' : Same _ (evPut H12 a13 d13 (CC "NoNode") "value" v) := Same.ev ha13 hd13 hn13
    have E13 : EvAt (evPut H12 a13 d13 (CC "NoNode") "value" v) (.ref a13) (CC "NoNode") := evAt_put hn13
    generalize evPut H12 a13 d13 (CC "NoNode") "value" v = H13 at e13' E13
    have e13 := e12.trans e13'
    replace hl := e13' _ _ hl
    refine ⟨(by show 6 ≤ sizeLine; decide), fun p14 hp14 => ?_⟩
    refine ⟨_, _, _, _, rfl, rfl, Same.upd hp14 _ _ hl, upd_same, (by show 12 ≤ sizeLine; decide), fun q14 hq14 => ?_⟩
    have e14' : Same H13 (upd (upd H13 p14 (.lst [.ref a8, .ref a9, .ref a10, .ref a11, .ref a12, .ref a13])) q14 (.lst ([.ref a1, .ref a2, .ref a3, .ref a4, .ref a5, .ref a6] ++ [.ref a8, .ref a9, .ref a10, .ref a11, .ref a12, .ref a13]))) := (Same.upd hp14).trans (Same.upd hq14)
    replace hl : (upd (upd H13 p14 (.lst [.ref a8, .ref a9, .ref a10, .ref a11, .ref a12, .ref a13])) q14 (.lst ([.ref a1, .ref a2, .ref a3, .ref a4, .ref a5, .ref a6] ++ [.ref a8, .ref a9, .ref a10, .ref a11, .ref a12, .ref a13]))) q14 = some (.lst [.ref a1, .ref a2, .ref a3, .ref a4, .ref a5, .ref a6, .ref a8, .ref a9, .ref a10, .ref a11, .ref a12, .ref a13]) := upd_same
    generalize upd (upd H13 p14 (.lst [.ref a8, .ref a9, .ref a10, .ref a11, .ref a12, .ref a13])) q14 (.lst ([.ref a1, .ref a2, .ref a3, .ref a4, .ref a5, .ref a6] ++ [.ref a8, .ref a9, .ref a10, .ref a11, .ref a12, .ref a13])) = H14 at e14' hl
    have e14 := e13.trans e14'
    refine ⟨_, rfl, ?_⟩
    refine ⟨v, rfl, v, rfl, fun a15 d15 ha15 hd15 hn15 => ?_⟩
    have e15' : Same _ (evPut H14 a15 d15 (CC "TooLarge") "number" v) := Same.ev ha15 hd15 hn15
    have E15 : EvAt (evPut H14 a15 d15 (CC "TooLarge") "number" v) (.ref a15) (CC "TooLarge") := evAt_put hn15
    generalize evPut H14 a15 d15 (CC "TooLarge") "number" v = H15 at e15' E15
    have e15 := e14.trans e15'
    replace hl := e15' _ _ hl
    refine ⟨v, rfl, v, rfl, fun a16 d16 ha16 hd16 hn16 => ?_⟩
    have e16' : Same _ (evPut H15 a16 d16 (CC "BadMenu") "value" v) := Same.ev ha16 hd16 hn16
    have E16 : EvAt (evPut H15 a16 d16 (CC "BadMenu") "value" v) (.ref a16) (CC "BadMenu") := evAt_put hn16
    generalize evPut H15 a16 d16 (CC "BadMenu") "value" v = H16 at e16' E16
    have e16 := e15.trans e16'
    replace hl := e16' _ _ hl
    refine ⟨v, rfl, v, rfl, fun a17 d17 ha17 hd17 hn17 => ?_⟩
    have e17' : Same _ (evPut H16 a17 d17 (CC "BadChange") "value" v) := Same.ev ha17 hd17 hn17
    have E17 : EvAt (evPut H16 a17 d17 (CC "BadChange") "value" v) (.ref a17) (CC "BadChange") := evAt_put hn17
    generalize evPut H16 a17 d17 (CC "BadChange") "value" v = H17 at e17' E17
    have e17 := e16.trans e17'
    replace hl := e17' _ _ hl
    refine ⟨v, rfl, v, rfl, fun a18 d18 ha18 hd18 hn18 => ?_⟩
    have e18' : Same _ (evPut H17 a18 d18 (CC "BadText") "at" v) := Same.ev ha18 hd18 hn18
    have E18 : EvAt (evPut H17 a18 d18 (CC "BadText") "at" v) (.ref a18) (CC "BadText") := evAt_put hn18
    generalize evPut H17 a18 d18 (CC "BadText") "at" v = H18 at e18' E18
    have e18 := e17.trans e18'
    replace hl := e18' _ _ hl
    refine ⟨v, rfl, v, rfl, fun a19 d19 ha19 hd19 hn19 => ?_⟩
    have e19' : Same _ (evPut H18 a19 d19 (CC "BadName") "value" v) := Same.ev ha19 hd19 hn19
    have E19 : EvAt (evPut H18 a19 d19 (CC "BadName") "value" v) (.ref a19) (CC "BadName") := evAt_put hn19
    generalize evPut H18 a19 d19 (CC "BadName") "value" v = H19 at e19' E19
    have e19 := e18.trans e19'
    replace hl := e19' _ _ hl
    refine ⟨(by show 5 ≤ sizeLine; decide), fun p20 hp20 => ?_⟩
    refine ⟨_, _, _, _, rfl, rfl, Same.upd hp20 _ _ hl, upd_same, (by show 17 ≤ sizeLine; decide), fun q20 hq20 => ?_⟩
    have e20' : Same H19 (upd (upd H19 p20 (.lst [.ref a15, .ref a16, .ref a17, .ref a18, .ref a19])) q20 (.lst ([.ref a1, .ref a2, .ref a3, .ref a4, .ref a5, .ref a6, .ref a8, .ref a9, .ref a10, .ref a11, .ref a12, .ref a13] ++ [.ref a15, .ref a16, .ref a17, .ref a18, .ref a19]))) := (Same.upd hp20).trans (Same.upd hq20)
    replace hl : (upd (upd H19 p20 (.lst [.ref a15, .ref a16, .ref a17, .ref a18, .ref a19])) q20 (.lst ([.ref a1, .ref a2, .ref a3, .ref a4, .ref a5, .ref a6, .ref a8, .ref a9, .ref a10, .ref a11, .ref a12, .ref a13] ++ [.ref a15, .ref a16, .ref a17, .ref a18, .ref a19]))) q20 = some (.lst [.ref a1, .ref a2, .ref a3, .ref a4, .ref a5, .ref a6, .ref a8, .ref a9, .ref a10, .ref a11, .ref a12, .ref a13, .ref a15, .ref a16, .ref a17, .ref a18, .ref a19]) := upd_same
    generalize upd (upd H19 p20 (.lst [.ref a15, .ref a16, .ref a17, .ref a18, .ref a19])) q20 (.lst ([.ref a1, .ref a2, .ref a3, .ref a4, .ref a5, .ref a6, .ref a8, .ref a9, .ref a10, .ref a11, .ref a12, .ref a13] ++ [.ref a15, .ref a16, .ref a17, .ref a18, .ref a19])) = H20 at e20' hl
    have e20 := e19.trans e20'
    refine ⟨_, rfl, ?_⟩
    refine ⟨v, rfl, v, rfl, fun a21 d21 ha21 hd21 hn21 => ?_⟩
    have e21' : Same _ (evPut H20 a21 d21 (CC "NameTaken") "name" v) := Same.ev ha21 hd21 hn21
    have E21 : EvAt (evPut H20 a21 d21 (CC "NameTaken") "name" v) (.ref a21) (CC "NameTaken") := evAt_put hn21
    generalize evPut H20 a21 d21 (CC "NameTaken") "name" v = H21 at e21' E21
    have e21 := e20.trans e21'
    replace hl := e21' _ _ hl
    refine ⟨v, rfl, v, rfl, fun a22 d22 ha22 hd22 hn22 => ?_⟩
    have e22' : Same _ (evPut H21 a22 d22 (CC "Dearer") "paper" v) := Same.ev ha22 hd22 hn22
    have E22 : EvAt (evPut H21 a22 d22 (CC "Dearer") "paper" v) (.ref a22) (CC "Dearer") := evAt_put hn22
    generalize evPut H21 a22 d22 (CC "Dearer") "paper" v = H22 at e22' E22
    have e22 := e21.trans e22'
    replace hl := e22' _ _ hl
    refine fun a23 ha23 => ?_
    have e23' : Same _ (upd H22 a23 (exo a23 (CC "NothingToUndo") none)) := Same.upd ha23
    have E23 : EvAt (upd H22 a23 (exo a23 (CC "NothingToUndo") none)) (.ref a23) (CC "NothingToUndo") := ⟨a23, none, rfl, upd_same, fun _ z => by cases z⟩
    generalize upd H22 a23 (exo a23 (CC "NothingToUndo") none) = H23 at e23' E23
    have e23 := e22.trans e23'
    replace hl := e23' _ _ hl
    refine ⟨v, rfl, v, rfl, fun a24 d24 ha24 hd24 hn24 => ?_⟩
    have e24' : Same _ (evPut H23 a24 d24 (CC "FailedDeed") "at" v) := Same.ev ha24 hd24 hn24
    have E24 : EvAt (evPut H23 a24 d24 (CC "FailedDeed") "at" v) (.ref a24) (CC "FailedDeed") := evAt_put hn24
    generalize evPut H23 a24 d24 (CC "FailedDeed") "at" v = H24 at e24' E24
    have e24 := e23.trans e24'
    replace hl := e24' _ _ hl
    refine ⟨v, rfl, v, rfl, fun a25 d25 ha25 hd25 hn25 => ?_⟩
    have e25' : Same _ (evPut H24 a25 d25 (CC "BadCommand") "line" v) := Same.ev ha25 hd25 hn25
    have E25 : EvAt (evPut H24 a25 d25 (CC "BadCommand") "line" v) (.ref a25) (CC "BadCommand") := evAt_put hn25
    generalize evPut H24 a25 d25 (CC "BadCommand") "line" v = H25 at e25' E25
    have e25 := e24.trans e25'
    replace hl := e25' _ _ hl
    refine ⟨(by show 5 ≤ sizeLine; decide), fun p26 hp26 => ?_⟩
    refine ⟨_, _, _, _, rfl, rfl, Same.upd hp26 _ _ hl, upd_same, (by show 22 ≤ sizeLine; decide), fun q26 hq26 => ?_⟩
    have e26' : Same H25 (upd (upd H25 p26 (.lst [.ref a21, .ref a22, .ref a23, .ref a24, .ref a25])) q26 (.lst ([.ref a1, .ref a2, .ref a3, .ref a4, .ref a5, .ref a6, .ref a8, .ref a9, .ref a10, .ref a11, .ref a12, .ref a13, .ref a15, .ref a16, .ref a17, .ref a18, .ref a19] ++ [.ref a21, .ref a22, .ref a23, .ref a24, .ref a25]))) := (Same.upd hp26).trans (Same.upd hq26)
    replace hl : (upd (upd H25 p26 (.lst [.ref a21, .ref a22, .ref a23, .ref a24, .ref a25])) q26 (.lst ([.ref a1, .ref a2, .ref a3, .ref a4, .ref a5, .ref a6, .ref a8, .ref a9, .ref a10, .ref a11, .ref a12, .ref a13, .ref a15, .ref a16, .ref a17, .ref a18, .ref a19] ++ [.ref a21, .ref a22, .ref a23, .ref a24, .ref a25]))) q26 = some (.lst [.ref a1, .ref a2, .ref a3, .ref a4, .ref a5, .ref a6, .ref a8, .ref a9, .ref a10, .ref a11, .ref a12, .ref a13, .ref a15, .ref a16, .ref a17, .ref a18, .ref a19, .ref a21, .ref a22, .ref a23, .ref a24, .ref a25]) := upd_same
    generalize upd (upd H25 p26 (.lst [.ref a21, .ref a22, .ref a23, .ref a24, .ref a25])) q26 (.lst ([.ref a1, .ref a2, .ref a3, .ref a4, .ref a5, .ref a6, .ref a8, .ref a9, .ref a10, .ref a11, .ref a12, .ref a13, .ref a15, .ref a16, .ref a17, .ref a18, .ref a19] ++ [.ref a21, .ref a22, .ref a23, .ref a24, .ref a25])) = H26 at e26' hl
    have e26 := e25.trans e26'
    refine ⟨_, rfl, ?_⟩
    refine ⟨v, rfl, v, rfl, fun a27 d27 ha27 hd27 hn27 => ?_⟩
    have e27' : Same _ (evPut H26 a27 d27 (CC "BadShare") "value" v) := Same.ev ha27 hd27 hn27
    have E27 : EvAt (evPut H26 a27 d27 (CC "BadShare") "value" v) (.ref a27) (CC "BadShare") := evAt_put hn27
    generalize evPut H26 a27 d27 (CC "BadShare") "value" v = H27 at e27' E27
    have e27 := e26.trans e27'
    replace hl := e27' _ _ hl
    refine ⟨v, rfl, v, rfl, fun a28 d28 ha28 hd28 hn28 => ?_⟩
    have e28' : Same _ (evPut H27 a28 d28 (CC "DividedByNothing") "value" v) := Same.ev ha28 hd28 hn28
    have E28 : EvAt (evPut H27 a28 d28 (CC "DividedByNothing") "value" v) (.ref a28) (CC "DividedByNothing") := evAt_put hn28
    generalize evPut H27 a28 d28 (CC "DividedByNothing") "value" v = H28 at e28' E28
    have e28 := e27.trans e28'
    replace hl := e28' _ _ hl
    refine ⟨v, rfl, v, rfl, fun a29 d29 ha29 hd29 hn29 => ?_⟩
    have e29' : Same _ (evPut H28 a29 d29 (CC "BadKind") "word" v) := Same.ev ha29 hd29 hn29
    have E29 : EvAt (evPut H28 a29 d29 (CC "BadKind") "word" v) (.ref a29) (CC "BadKind") := evAt_put hn29
    generalize evPut H28 a29 d29 (CC "BadKind") "word" v = H29 at e29' E29
    have e29 := e28.trans e29'
    replace hl := e29' _ _ hl
    refine ⟨v, rfl, v, rfl, fun a30 d30 ha30 hd30 hn30 => ?_⟩
    have e30' : Same _ (evPut H29 a30 d30 (CC "UnknownName") "name" v) := Same.ev ha30 hd30 hn30
    have E30 : EvAt (evPut H29 a30 d30 (CC "UnknownName") "name" v) (.ref a30) (CC "UnknownName") := evAt_put hn30
    generalize evPut H29 a30 d30 (CC "UnknownName") "name" v = H30 at e30' E30
    have e30 := e29.trans e30'
    replace hl := e30' _ _ hl
    refine ⟨(by show 4 ≤ sizeLine; decide), fun p31 hp31 => ?_⟩
    refine ⟨_, _, _, _, rfl, rfl, Same.upd hp31 _ _ hl, upd_same, (by show 26 ≤ sizeLine; decide), fun q31 hq31 => ?_⟩
    have e31' : Same H30 (upd (upd H30 p31 (.lst [.ref a27, .ref a28, .ref a29, .ref a30])) q31 (.lst ([.ref a1, .ref a2, .ref a3, .ref a4, .ref a5, .ref a6, .ref a8, .ref a9, .ref a10, .ref a11, .ref a12, .ref a13, .ref a15, .ref a16, .ref a17, .ref a18, .ref a19, .ref a21, .ref a22, .ref a23, .ref a24, .ref a25] ++ [.ref a27, .ref a28, .ref a29, .ref a30]))) := (Same.upd hp31).trans (Same.upd hq31)
    replace hl : (upd (upd H30 p31 (.lst [.ref a27, .ref a28, .ref a29, .ref a30])) q31 (.lst ([.ref a1, .ref a2, .ref a3, .ref a4, .ref a5, .ref a6, .ref a8, .ref a9, .ref a10, .ref a11, .ref a12, .ref a13, .ref a15, .ref a16, .ref a17, .ref a18, .ref a19, .ref a21, .ref a22, .ref a23, .ref a24, .ref a25] ++ [.ref a27, .ref a28, .ref a29, .ref a30]))) q31 = some (.lst [.ref a1, .ref a2, .ref a3, .ref a4, .ref a5, .ref a6, .ref a8, .ref a9, .ref a10, .ref a11, .ref a12, .ref a13, .ref a15, .ref a16, .ref a17, .ref a18, .ref a19, .ref a21, .ref a22, .ref a23, .ref a24, .ref a25, .ref a27, .ref a28, .ref a29, .ref a30]) := upd_same
    have hfr : H q31 = none := (e30.trans (Same.upd hp31)).free hq31
    generalize upd (upd H30 p31 (.lst [.ref a27, .ref a28, .ref a29, .ref a30])) q31 (.lst ([.ref a1, .ref a2, .ref a3, .ref a4, .ref a5, .ref a6, .ref a8, .ref a9, .ref a10, .ref a11, .ref a12, .ref a13, .ref a15, .ref a16, .ref a17, .ref a18, .ref a19, .ref a21, .ref a22, .ref a23, .ref a24, .ref a25] ++ [.ref a27, .ref a28, .ref a29, .ref a30])) = H31 at e31' hl
    have e31 := e30.trans e31'
    have s31 : Same H31 H31 := Same.refl _
    have s30 := e31'.trans s31
    have s29 := e30'.trans s30
    have s28 := e29'.trans s29
    have s27 := e28'.trans s28
    have s26 := e27'.trans s27
    have s25 := e26'.trans s26
    have s24 := e25'.trans s25
    have s23 := e24'.trans s24
    have s22 := e23'.trans s23
    have s21 := e22'.trans s22
    have s20 := e21'.trans s21
    have s19 := e20'.trans s20
    have s18 := e19'.trans s19
    have s17 := e18'.trans s18
    have s16 := e17'.trans s17
    have s15 := e16'.trans s16
    have s14 := e15'.trans s15
    have s13 := e14'.trans s14
    have s12 := e13'.trans s13
    have s11 := e12'.trans s12
    have s10 := e11'.trans s11
    have s9 := e10'.trans s10
    have s8 := e9'.trans s9
    have s7 := e8'.trans s8
    have s6 := e7'.trans s7
    have s5 := e6'.trans s6
    have s4 := e5'.trans s5
    have s3 := e4'.trans s4
    have s2 := e3'.trans s3
    have s1 := e2'.trans s2
    exact k q31 _ _ e31 hfr hl (Al.cons (E1.mono s1) (Al.cons (E2.mono s2) (Al.cons (E3.mono s3) (Al.cons (E4.mono s4) (Al.cons (E5.mono s5) (Al.cons (E6.mono s6) (Al.cons (E8.mono s8) (Al.cons (E9.mono s9) (Al.cons (E10.mono s10) (Al.cons (E11.mono s11) (Al.cons (E12.mono s12) (Al.cons (E13.mono s13) (Al.cons (E15.mono s15) (Al.cons (E16.mono s16) (Al.cons (E17.mono s17) (Al.cons (E18.mono s18) (Al.cons (E19.mono s19) (Al.cons (E21.mono s21) (Al.cons (E22.mono s22) (Al.cons (E23.mono s23) (Al.cons (E24.mono s24) (Al.cons (E25.mono s25) (Al.cons (E27.mono s27) (Al.cons (E28.mono s28) (Al.cons (E29.mono s29) (Al.cons (E30.mono s30) Al.nil))))))))))))))))))))))))))
end
end Ps

/-! k43: classes, caught. -/
namespace Ps
open PySem PySem.Spec PyProof.Rows PySem.W L2

def isRow (i : Nat) : List V := [.bl (decide (i = 0)), .bl (decide (i = 1)), .bl (decide (i = 2)), .bl (decide (i = 3)), .bl (decide (i = 4)), .bl (decide (i = 5)), .bl (decide (i = 6)), .bl (decide (i = 7)), .bl (decide (i = 8)), .bl (decide (i = 9)), .bl (decide (i = 10)), .bl (decide (i = 11)), .bl (decide (i = 12)), .bl (decide (i = 13)), .bl (decide (i = 14)), .bl (decide (i = 15)), .bl (decide (i = 16)), .bl (decide (i = 17)), .bl (decide (i = 18)), .bl (decide (i = 19)), .bl (decide (i = 20)), .bl (decide (i = 21)), .bl (decide (i = 22)), .bl (decide (i = 23)), .bl (decide (i = 24)), .bl (decide (i = 25))]
def spClasses (CC : Str → Addr) : Sp := fun vs H Q _ => ∃ v x i, vs = [v] ∧ cls26[i]? = some x ∧ EvAt H v (CC x) ∧ NewL H Q (isRow i)
section
variable {Z : Cz} {f : Addr} {fd : FuncData} {CC : Str → Addr}
theorem ok_classes (F : Fun Z.K "_law_classes" "_law_classes" s_lw_classes f fd) (isi : Z.mg "isinstance" = none) (hG : ∀ (i : Nat) (x : Str), cls26[i]? = some x → Z.mg x = some (.ref (CC x))) (hC : ∀ (i : Nat) (x : Str), cls26[i]? = some x → ExcC Z.K (CC x))
    (hK : ∀ (i j : Nat) (x y : Str), cls26[i]? = some x → cls26[j]? = some y → kitOne Z.K (.ref (CC x)) (.ref (CC y)) = some (decide (i = j))) : Z.ok CX0 1 f fd ["_law_one"] (spClasses CC) := by
  refine F.ok sc_lw_classes (fun vs H Q E h => ?_) (fun cdv A outer s H vs Q E hr h => ?_)
  · obtain ⟨v, _, _, rfl, _⟩ := h
    rfl
  · obtain ⟨v, x, i, rfl, hx, hv, k⟩ := h
    refine ⟨_, (pss_cons (ps_set (i := 1) sc_lw_classes.nd rfl (Or.inl rfl) (pe_lst (pa_cons (pe_callB (show CallR _ _ (rIsEv Z.K) from call_isEv) (by rfl) isi (by decide +kernel) (pa_cons (pv 0) (pa_cons (pe_glob (v := .ref (CC "BadArgument")) rfl (hG 0 _ rfl) rfl) pa_nil))) (pa_cons (pe_callB (show CallR _ _ (rIsEv Z.K) from call_isEv) (by rfl) isi (by decide +kernel) (pa_cons (pv 0) (pa_cons (pe_glob (v := .ref (CC "BadPrice")) rfl (hG 1 _ rfl) rfl) pa_nil))) (pa_cons (pe_callB (show CallR _ _ (rIsEv Z.K) from call_isEv) (by rfl) isi (by decide +kernel) (pa_cons (pv 0) (pa_cons (pe_glob (v := .ref (CC "BadBook")) rfl (hG 2 _ rfl) rfl) pa_nil))) pa_nil)))))
      (pss_cons (ps_set (i := 1) sc_lw_classes.nd rfl (Or.inl rfl) (pe_op op_cat (pv 1) (pe_lst (pa_cons (pe_callB (show CallR _ _ (rIsEv Z.K) from call_isEv) (by rfl) isi (by decide +kernel) (pa_cons (pv 0) (pa_cons (pe_glob (v := .ref (CC "BadState")) rfl (hG 3 _ rfl) rfl) pa_nil))) (pa_cons (pe_callB (show CallR _ _ (rIsEv Z.K) from call_isEv) (by rfl) isi (by decide +kernel) (pa_cons (pv 0) (pa_cons (pe_glob (v := .ref (CC "BadRow")) rfl (hG 4 _ rfl) rfl) pa_nil))) (pa_cons (pe_callB (show CallR _ _ (rIsEv Z.K) from call_isEv) (by rfl) isi (by decide +kernel) (pa_cons (pv 0) (pa_cons (pe_glob (v := .ref (CC "BadParts")) rfl (hG 5 _ rfl) rfl) pa_nil))) pa_nil))))))
      (pss_cons (ps_set (i := 1) sc_lw_classes.nd rfl (Or.inl rfl) (pe_op op_cat (pv 1) (pe_lst (pa_cons (pe_callB (show CallR _ _ (rIsEv Z.K) from call_isEv) (by rfl) isi (by decide +kernel) (pa_cons (pv 0) (pa_cons (pe_glob (v := .ref (CC "BadRows")) rfl (hG 6 _ rfl) rfl) pa_nil))) (pa_cons (pe_callB (show CallR _ _ (rIsEv Z.K) from call_isEv) (by rfl) isi (by decide +kernel) (pa_cons (pv 0) (pa_cons (pe_glob (v := .ref (CC "BadSort")) rfl (hG 7 _ rfl) rfl) pa_nil))) (pa_cons (pe_callB (show CallR _ _ (rIsEv Z.K) from call_isEv) (by rfl) isi (by decide +kernel) (pa_cons (pv 0) (pa_cons (pe_glob (v := .ref (CC "BadNumber")) rfl (hG 8 _ rfl) rfl) pa_nil))) pa_nil))))))
      (pss_cons (ps_set (i := 1) sc_lw_classes.nd rfl (Or.inl rfl) (pe_op op_cat (pv 1) (pe_lst (pa_cons (pe_callB (show CallR _ _ (rIsEv Z.K) from call_isEv) (by rfl) isi (by decide +kernel) (pa_cons (pv 0) (pa_cons (pe_glob (v := .ref (CC "BadPlan")) rfl (hG 9 _ rfl) rfl) pa_nil))) (pa_cons (pe_callB (show CallR _ _ (rIsEv Z.K) from call_isEv) (by rfl) isi (by decide +kernel) (pa_cons (pv 0) (pa_cons (pe_glob (v := .ref (CC "BadWay")) rfl (hG 10 _ rfl) rfl) pa_nil))) (pa_cons (pe_callB (show CallR _ _ (rIsEv Z.K) from call_isEv) (by rfl) isi (by decide +kernel) (pa_cons (pv 0) (pa_cons (pe_glob (v := .ref (CC "NoNode")) rfl (hG 11 _ rfl) rfl) pa_nil))) pa_nil))))))
      (pss_cons (ps_set (i := 1) sc_lw_classes.nd rfl (Or.inl rfl) (pe_op op_cat (pv 1) (pe_lst (pa_cons (pe_callB (show CallR _ _ (rIsEv Z.K) from call_isEv) (by rfl) isi (by decide +kernel) (pa_cons (pv 0) (pa_cons (pe_glob (v := .ref (CC "TooLarge")) rfl (hG 12 _ rfl) rfl) pa_nil))) (pa_cons (pe_callB (show CallR _ _ (rIsEv Z.K) from call_isEv) (by rfl) isi (by decide +kernel) (pa_cons (pv 0) (pa_cons (pe_glob (v := .ref (CC "BadMenu")) rfl (hG 13 _ rfl) rfl) pa_nil))) (pa_cons (pe_callB (show CallR _ _ (rIsEv Z.K) from call_isEv) (by rfl) isi (by decide +kernel) (pa_cons (pv 0) (pa_cons (pe_glob (v := .ref (CC "BadChange")) rfl (hG 14 _ rfl) rfl) pa_nil))) pa_nil))))))
      (pss_cons (ps_set (i := 1) sc_lw_classes.nd rfl (Or.inl rfl) (pe_op op_cat (pv 1) (pe_lst (pa_cons (pe_callB (show CallR _ _ (rIsEv Z.K) from call_isEv) (by rfl) isi (by decide +kernel) (pa_cons (pv 0) (pa_cons (pe_glob (v := .ref (CC "BadText")) rfl (hG 15 _ rfl) rfl) pa_nil))) (pa_cons (pe_callB (show CallR _ _ (rIsEv Z.K) from call_isEv) (by rfl) isi (by decide +kernel) (pa_cons (pv 0) (pa_cons (pe_glob (v := .ref (CC "BadName")) rfl (hG 16 _ rfl) rfl) pa_nil))) (pa_cons (pe_callB (show CallR _ _ (rIsEv Z.K) from call_isEv) (by rfl) isi (by decide +kernel) (pa_cons (pv 0) (pa_cons (pe_glob (v := .ref (CC "NameTaken")) rfl (hG 17 _ rfl) rfl) pa_nil))) pa_nil))))))
      (pss_cons (ps_set (i := 1) sc_lw_classes.nd rfl (Or.inl rfl) (pe_op op_cat (pv 1) (pe_lst (pa_cons (pe_callB (show CallR _ _ (rIsEv Z.K) from call_isEv) (by rfl) isi (by decide +kernel) (pa_cons (pv 0) (pa_cons (pe_glob (v := .ref (CC "Dearer")) rfl (hG 18 _ rfl) rfl) pa_nil))) (pa_cons (pe_callB (show CallR _ _ (rIsEv Z.K) from call_isEv) (by rfl) isi (by decide +kernel) (pa_cons (pv 0) (pa_cons (pe_glob (v := .ref (CC "NothingToUndo")) rfl (hG 19 _ rfl) rfl) pa_nil))) (pa_cons (pe_callB (show CallR _ _ (rIsEv Z.K) from call_isEv) (by rfl) isi (by decide +kernel) (pa_cons (pv 0) (pa_cons (pe_glob (v := .ref (CC "FailedDeed")) rfl (hG 20 _ rfl) rfl) pa_nil))) pa_nil))))))
      (pss_cons (ps_set (i := 1) sc_lw_classes.nd rfl (Or.inl rfl) (pe_op op_cat (pv 1) (pe_lst (pa_cons (pe_callB (show CallR _ _ (rIsEv Z.K) from call_isEv) (by rfl) isi (by decide +kernel) (pa_cons (pv 0) (pa_cons (pe_glob (v := .ref (CC "BadCommand")) rfl (hG 21 _ rfl) rfl) pa_nil))) (pa_cons (pe_callB (show CallR _ _ (rIsEv Z.K) from call_isEv) (by rfl) isi (by decide +kernel) (pa_cons (pv 0) (pa_cons (pe_glob (v := .ref (CC "BadShare")) rfl (hG 22 _ rfl) rfl) pa_nil))) (pa_cons (pe_callB (show CallR _ _ (rIsEv Z.K) from call_isEv) (by rfl) isi (by decide +kernel) (pa_cons (pv 0) (pa_cons (pe_glob (v := .ref (CC "DividedByNothing")) rfl (hG 23 _ rfl) rfl) pa_nil))) pa_nil))))))
      (pss_one (ps_ret (pe_op op_cat (pv 1) (pe_lst (pa_cons (pe_callB (show CallR _ _ (rIsEv Z.K) from call_isEv) (by rfl) isi (by decide +kernel) (pa_cons (pv 0) (pa_cons (pe_glob (v := .ref (CC "BadKind")) rfl (hG 24 _ rfl) rfl) pa_nil))) (pa_cons (pe_callB (show CallR _ _ (rIsEv Z.K) from call_isEv) (by rfl) isi (by decide +kernel) (pa_cons (pv 0) (pa_cons (pe_glob (v := .ref (CC "UnknownName")) rfl (hG 25 _ rfl) rfl) pa_nil))) pa_nil)))))))))))))), ?_⟩
    obtain ⟨a, d, rfl, ha, hd⟩ := hv
    have e0 : Same H H := Same.refl _
    refine ⟨_, rfl, a, _, d, _, _, _, rfl, ha, hd, hC _ _ hx, .own _, hK _ 0 _ _ hx rfl, ?_⟩
    refine ⟨_, rfl, a, _, d, _, _, _, rfl, ha, hd, hC _ _ hx, .own _, hK _ 1 _ _ hx rfl, ?_⟩
    refine ⟨_, rfl, a, _, d, _, _, _, rfl, ha, hd, hC _ _ hx, .own _, hK _ 2 _ _ hx rfl, ?_⟩
    refine ⟨(by show 3 ≤ sizeLine; decide), fun p1 hp1 => ?_⟩
    have e1' : Same H (upd H p1 (.lst [.bl (decide (i = 0)), .bl (decide (i = 1)), .bl (decide (i = 2))])) := Same.upd hp1
    have hl : (upd H p1 (.lst [.bl (decide (i = 0)), .bl (decide (i = 1)), .bl (decide (i = 2))])) p1 = some (.lst [.bl (decide (i = 0)), .bl (decide (i = 1)), .bl (decide (i = 2))]) := upd_same
    generalize upd H p1 (.lst [.bl (decide (i = 0)), .bl (decide (i = 1)), .bl (decide (i = 2))]) = H1 at e1' hl
    have e1 := e0.trans e1'
    replace ha := e1' _ _ ha
    replace hd : ∀ dd, d = some dd → ∃ fs, H1 dd = some (.xd fs) := fun dd z => by obtain ⟨fs, h⟩ := hd dd z; exact ⟨fs, e1' _ _ h⟩
    refine ⟨_, rfl, ?_⟩
    refine ⟨_, rfl, a, _, d, _, _, _, rfl, ha, hd, hC _ _ hx, .own _, hK _ 3 _ _ hx rfl, ?_⟩
    refine ⟨_, rfl, a, _, d, _, _, _, rfl, ha, hd, hC _ _ hx, .own _, hK _ 4 _ _ hx rfl, ?_⟩
    refine ⟨_, rfl, a, _, d, _, _, _, rfl, ha, hd, hC _ _ hx, .own _, hK _ 5 _ _ hx rfl, ?_⟩
    refine ⟨(by show 3 ≤ sizeLine; decide), fun p2 hp2 => ?_⟩
    refine ⟨_, _, _, _, rfl, rfl, Same.upd hp2 _ _ hl, upd_same, (by show 6 ≤ sizeLine; decide), fun q2 hq2 => ?_⟩
    have e2' : Same H1 (upd (upd H1 p2 (.lst [.bl (decide (i = 3)), .bl (decide (i = 4)), .bl (decide (i = 5))])) q2 (.lst ([.bl (decide (i = 0)), .bl (decide (i = 1)), .bl (decide (i = 2))] ++ [.bl (decide (i = 3)), .bl (decide (i = 4)), .bl (decide (i = 5))]))) := (Same.upd hp2).trans (Same.upd hq2)
    replace hl : (upd (upd H1 p2 (.lst [.bl (decide (i = 3)), .bl (decide (i = 4)), .bl (decide (i = 5))])) q2 (.lst ([.bl (decide (i = 0)), .bl (decide (i = 1)), .bl (decide (i = 2))] ++ [.bl (decide (i = 3)), .bl (decide (i = 4)), .bl (decide (i = 5))]))) q2 = some (.lst [.bl (decide (i = 0)), .bl (decide (i = 1)), .bl (decide (i = 2)), .bl (decide (i = 3)), .bl (decide (i = 4)), .bl (decide (i = 5))]) := upd_same
    generalize upd (upd H1 p2 (.lst [.bl (decide (i = 3)), .bl (decide (i = 4)), .bl (decide (i = 5))])) q2 (.lst ([.bl (decide (i = 0)), .bl (decide (i = 1)), .bl (decide (i = 2))] ++ [.bl (decide (i = 3)), .bl (decide (i = 4)), .bl (decide (i = 5))])) = H2 at e2' hl
    have e2 := e1.trans e2'
    replace ha := e2' _ _ ha
    replace hd : ∀ dd, d = some dd → ∃ fs, H2 dd = some (.xd fs) := fun dd z => by obtain ⟨fs, h⟩ := hd dd z; exact ⟨fs, e2' _ _ h⟩
    refine ⟨_, rfl, ?_⟩
    refine ⟨_, rfl, a, _, d, _, _, _, rfl, ha, hd, hC _ _ hx, .own _, hK _ 6 _ _ hx rfl, ?_⟩
    refine ⟨_, rfl, a, _, d, _, _, _, rfl, ha, hd, hC _ _ hx, .own _, hK _ 7 _ _ hx rfl, ?_⟩
    refine ⟨_, rfl, a, _, d, _, _, _, rfl, ha, hd, hC _ _ hx, .own _, hK _ 8 _ _ hx rfl, ?_⟩
    refine ⟨(by show 3 ≤ sizeLine; decide), fun p3 hp3 => ?_⟩
    refine ⟨_, _, _, _, rfl, rfl, Same.upd hp3 _ _ hl, upd_same, (by show 9 ≤ sizeLine; decide), fun q3 hq3 => ?_⟩
    have e3' : Same H2 (upd (upd H2 p3 (.lst [.bl (decide (i = 6)), .bl (decide (i = 7)), .bl (decide (i = 8))])) q3 (.lst ([.bl (decide (i = 0)), .bl (decide (i = 1)), .bl (decide (i = 2)), .bl (decide (i = 3)), .bl (decide (i = 4)), .bl (decide (i = 5))] ++ [.bl (decide (i = 6)), .bl (decide (i = 7)), .bl (decide (i = 8))]))) := (Same.upd hp3).trans (Same.upd hq3)
    replace hl : (upd (upd H2 p3 (.lst [.bl (decide (i = 6)), .bl (decide (i = 7)), .bl (decide (i = 8))])) q3 (.lst ([.bl (decide (i = 0)), .bl (decide (i = 1)), .bl (decide (i = 2)), .bl (decide (i = 3)), .bl (decide (i = 4)), .bl (decide (i = 5))] ++ [.bl (decide (i = 6)), .bl (decide (i = 7)), .bl (decide (i = 8))]))) q3 = some (.lst [.bl (decide (i = 0)), .bl (decide (i = 1)), .bl (decide (i = 2)), .bl (decide (i = 3)), .bl (decide (i = 4)), .bl (decide (i = 5)), .bl (decide (i = 6)), .bl (decide (i = 7)), .bl (decide (i = 8))]) := upd_same
    generalize upd (upd H2 p3 (.lst [.bl (decide (i = 6)), .bl (decide (i = 7)), .bl (decide (i = 8))])) q3 (.lst ([.bl (decide (i = 0)), .bl (decide (i = 1)), .bl (decide (i = 2)), .bl (decide (i = 3)), .bl (decide (i = 4)), .bl (decide (i = 5))] ++ [.bl (decide (i = 6)), .bl (decide (i = 7)), .bl (decide (i = 8))])) = H3 at e3' hl
    have e3 := e2.trans e3'
    replace ha := e3' _ _ ha
    replace hd : ∀ dd, d = some dd → ∃ fs, H3 dd = some (.xd fs) := fun dd z => by obtain ⟨fs, h⟩ := hd dd z; exact ⟨fs, e3' _ _ h⟩
    refine ⟨_, rfl, ?_⟩
    refine ⟨_, rfl, a, _, d, _, _, _, rfl, ha, hd, hC _ _ hx, .own _, hK _ 9 _ _ hx rfl, ?_⟩
    refine ⟨_, rfl, a, _, d, _, _, _, rfl, ha, hd, hC _ _ hx, .own _, hK _ 10 _ _ hx rfl, ?_⟩
    refine ⟨_, rfl, a, _, d, _, _, _, rfl, ha, hd, hC _ _ hx, .own _, hK _ 11 _ _ hx rfl, ?_⟩
    refine ⟨(by show 3 ≤ sizeLine; decide), fun p4 hp4 => ?_⟩
    refine ⟨_, _, _, _, rfl, rfl, Same.upd hp4 _ _ hl, upd_same, (by show 12 ≤ sizeLine; decide), fun q4 hq4 => ?_⟩
    have e4' : Same H3 (upd (upd H3 p4 (.lst [.bl (decide (i = 9)), .bl (decide (i = 10)), .bl (decide (i = 11))])) q4 (.lst ([.bl (decide (i = 0)), .bl (decide (i = 1)), .bl (decide (i = 2)), .bl (decide (i = 3)), .bl (decide (i = 4)), .bl (decide (i = 5)), .bl (decide (i = 6)), .bl (decide (i = 7)), .bl (decide (i = 8))] ++ [.bl (decide (i = 9)), .bl (decide (i = 10)), .bl (decide (i = 11))]))) := (Same.upd hp4).trans (Same.upd hq4)
    replace hl : (upd (upd H3 p4 (.lst [.bl (decide (i = 9)), .bl (decide (i = 10)), .bl (decide (i = 11))])) q4 (.lst ([.bl (decide (i = 0)), .bl (decide (i = 1)), .bl (decide (i = 2)), .bl (decide (i = 3)), .bl (decide (i = 4)), .bl (decide (i = 5)), .bl (decide (i = 6)), .bl (decide (i = 7)), .bl (decide (i = 8))] ++ [.bl (decide (i = 9)), .bl (decide (i = 10)), .bl (decide (i = 11))]))) q4 = some (.lst [.bl (decide (i = 0)), .bl (decide (i = 1)), .bl (decide (i = 2)), .bl (decide (i = 3)), .bl (decide (i = 4)), .bl (decide (i = 5)), .bl (decide (i = 6)), .bl (decide (i = 7)), .bl (decide (i = 8)), .bl (decide (i = 9)), .bl (decide (i = 10)), .bl (decide (i = 11))]) := upd_same
    generalize upd (upd H3 p4 (.lst [.bl (decide (i = 9)), .bl (decide (i = 10)), .bl (decide (i = 11))])) q4 (.lst ([.bl (decide (i = 0)), .bl (decide (i = 1)), .bl (decide (i = 2)), .bl (decide (i = 3)), .bl (decide (i = 4)), .bl (decide (i = 5)), .bl (decide (i = 6)), .bl (decide (i = 7)), .bl (decide (i = 8))] ++ [.bl (decide (i = 9)), .bl (decide (i = 10)), .bl (decide (i = 11))])) = H4 at e4' hl
    have e4 := e3.trans e4'
    replace ha := e4' _ _ ha
    replace hd : ∀ dd, d = some dd → ∃ fs, H4 dd = some (.xd fs) := fun dd z => by obtain ⟨fs, h⟩ := hd dd z; exact ⟨fs, e4' _ _ h⟩
    refine ⟨_, rfl, ?_⟩
    refine ⟨_, rfl, a, _, d, _, _, _, rfl, ha, hd, hC _ _ hx, .own _, hK _ 12 _ _ hx rfl, ?_⟩
    refine ⟨_, rfl, a, _, d, _, _, _, rfl, ha, hd, hC _ _ hx, .own _, hK _ 13 _ _ hx rfl, ?_⟩
    refine ⟨_, rfl, a, _, d, _, _, _, rfl, ha, hd, hC _ _ hx, .own _, hK _ 14 _ _ hx rfl, ?_⟩
    refine ⟨(by show 3 ≤ sizeLine; decide), fun p5 hp5 => ?_⟩
    refine ⟨_, _, _, _, rfl, rfl, Same.upd hp5 _ _ hl, upd_same, (by show 15 ≤ sizeLine; decide), fun q5 hq5 => ?_⟩
    have e5' : Same H4 (upd (upd H4 p5 (.lst [.bl (decide (i = 12)), .bl (decide (i = 13)), .bl (decide (i = 14))])) q5 (.lst ([.bl (decide (i = 0)), .bl (decide (i = 1)), .bl (decide (i = 2)), .bl (decide (i = 3)), .bl (decide (i = 4)), .bl (decide (i = 5)), .bl (decide (i = 6)), .bl (decide (i = 7)), .bl (decide (i = 8)), .bl (decide (i = 9)), .bl (decide (i = 10)), .bl (decide (i = 11))] ++ [.bl (decide (i = 12)), .bl (decide (i = 13)), .bl (decide (i = 14))]))) := (Same.upd hp5).trans (Same.upd hq5)
    replace hl : (upd (upd H4 p5 (.lst [.bl (decide (i = 12)), .bl (decide (i = 13)), .bl (decide (i = 14))])) q5 (.lst ([.bl (decide (i = 0)), .bl (decide (i = 1)), .bl (decide (i = 2)), .bl (decide (i = 3)), .bl (decide (i = 4)), .bl (decide (i = 5)), .bl (decide (i = 6)), .bl (decide (i = 7)), .bl (decide (i = 8)), .bl (decide (i = 9)), .bl (decide (i = 10)), .bl (decide (i = 11))] ++ [.bl (decide (i = 12)), .bl (decide (i = 13)), .bl (decide (i = 14))]))) q5 = some (.lst [.bl (decide (i = 0)), .bl (decide (i = 1)), .bl (decide (i = 2)), .bl (decide (i = 3)), .bl (decide (i = 4)), .bl (decide (i = 5)), .bl (decide (i = 6)), .bl (decide (i = 7)), .bl (decide (i = 8)), .bl (decide (i = 9)), .bl (decide (i = 10)), .bl (decide (i = 11)), .bl (decide (i = 12)), .bl (decide (i = 13)), .bl (decide (i = 14))]) := upd_same
    generalize upd (upd H4 p5 (.lst [.bl (decide (i = 12)), .bl (decide (i = 13)), .bl (decide (i = 14))])) q5 (.lst ([.bl (decide (i = 0)), .bl (decide (i = 1)), .bl (decide (i = 2)), .bl (decide (i = 3)), .bl (decide (i = 4)), .bl (decide (i = 5)), .bl (decide (i = 6)), .bl (decide (i = 7)), .bl (decide (i = 8)), .bl (decide (i = 9)), .bl (decide (i = 10)), .bl (decide (i = 11))] ++ [.bl (decide (i = 12)), .bl (decide (i = 13)), .bl (decide (i = 14))])) = H5 at e5' hl
    have e5 := e4.trans e5'
    replace ha := e5' _ _ ha
    replace hd : ∀ dd, d = some dd → ∃ fs, H5 dd = some (.xd fs) := fun dd z => by obtain ⟨fs, h⟩ := hd dd z; exact ⟨fs, e5' _ _ h⟩
    refine ⟨_, rfl, ?_⟩
    refine ⟨_, rfl, a, _, d, _, _, _, rfl, ha, hd, hC _ _ hx, .own _, hK _ 15 _ _ hx rfl, ?_⟩
    refine ⟨_, rfl, a, _, d, _, _, _, rfl, ha, hd, hC _ _ hx, .own _, hK _ 16 _ _ hx rfl, ?_⟩
    refine ⟨_, rfl, a, _, d, _, _, _, rfl, ha, hd, hC _ _ hx, .own _, hK _ 17 _ _ hx rfl, ?_⟩
    refine ⟨(by show 3 ≤ sizeLine; decide), fun p6 hp6 => ?_⟩
    refine ⟨_, _, _, _, rfl, rfl, Same.upd hp6 _ _ hl, upd_same, (by show 18 ≤ sizeLine; decide), fun q6 hq6 => ?_⟩
    have e6' : Same H5 (upd (upd H5 p6 (.lst [.bl (decide (i = 15)), .bl (decide (i = 16)), .bl (decide (i = 17))])) q6 (.lst ([.bl (decide (i = 0)), .bl (decide (i = 1)), .bl (decide (i = 2)), .bl (decide (i = 3)), .bl (decide (i = 4)), .bl (decide (i = 5)), .bl (decide (i = 6)), .bl (decide (i = 7)), .bl (decide (i = 8)), .bl (decide (i = 9)), .bl (decide (i = 10)), .bl (decide (i = 11)), .bl (decide (i = 12)), .bl (decide (i = 13)), .bl (decide (i = 14))] ++ [.bl (decide (i = 15)), .bl (decide (i = 16)), .bl (decide (i = 17))]))) := (Same.upd hp6).trans (Same.upd hq6)
    replace hl : (upd (upd H5 p6 (.lst [.bl (decide (i = 15)), .bl (decide (i = 16)), .bl (decide (i = 17))])) q6 (.lst ([.bl (decide (i = 0)), .bl (decide (i = 1)), .bl (decide (i = 2)), .bl (decide (i = 3)), .bl (decide (i = 4)), .bl (decide (i = 5)), .bl (decide (i = 6)), .bl (decide (i = 7)), .bl (decide (i = 8)), .bl (decide (i = 9)), .bl (decide (i = 10)), .bl (decide (i = 11)), .bl (decide (i = 12)), .bl (decide (i = 13)), .bl (decide (i = 14))] ++ [.bl (decide (i = 15)), .bl (decide (i = 16)), .bl (decide (i = 17))]))) q6 = some (.lst [.bl (decide (i = 0)), .bl (decide (i = 1)), .bl (decide (i = 2)), .bl (decide (i = 3)), .bl (decide (i = 4)), .bl (decide (i = 5)), .bl (decide (i = 6)), .bl (decide (i = 7)), .bl (decide (i = 8)), .bl (decide (i = 9)), .bl (decide (i = 10)), .bl (decide (i = 11)), .bl (decide (i = 12)), .bl (decide (i = 13)), .bl (decide (i = 14)), .bl (decide (i = 15)), .bl (decide (i = 16)), .bl (decide (i = 17))]) := upd_same
    generalize upd (upd H5 p6 (.lst [.bl (decide (i = 15)), .bl (decide (i = 16)), .bl (decide (i = 17))])) q6 (.lst ([.bl (decide (i = 0)), .bl (decide (i = 1)), .bl (decide (i = 2)), .bl (decide (i = 3)), .bl (decide (i = 4)), .bl (decide (i = 5)), .bl (decide (i = 6)), .bl (decide (i = 7)), .bl (decide (i = 8)), .bl (decide (i = 9)), .bl (decide (i = 10)), .bl (decide (i = 11)), .bl (decide (i = 12)), .bl (decide (i = 13)), .bl (decide (i = 14))] ++ [.bl (decide (i = 15)), .bl (decide (i = 16)), .bl (decide (i = 17))])) = H6 at e6' hl
    have e6 := e5.trans e6'
    replace ha := e6' _ _ ha
    replace hd : ∀ dd, d = some dd → ∃ fs, H6 dd = some (.xd fs) := fun dd z => by obtain ⟨fs, h⟩ := hd dd z; exact ⟨fs, e6' _ _ h⟩
    refine ⟨_, rfl, ?_⟩
    refine ⟨_, rfl, a, _, d, _, _, _, rfl, ha, hd, hC _ _ hx, .own _, hK _ 18 _ _ hx rfl, ?_⟩
    refine ⟨_, rfl, a, _, d, _, _, _, rfl, ha, hd, hC _ _ hx, .own _, hK _ 19 _ _ hx rfl, ?_⟩
    refine ⟨_, rfl, a, _, d, _, _, _, rfl, ha, hd, hC _ _ hx, .own _, hK _ 20 _ _ hx rfl, ?_⟩
    refine ⟨(by show 3 ≤ sizeLine; decide), fun p7 hp7 => ?_⟩
    refine ⟨_, _, _, _, rfl, rfl, Same.upd hp7 _ _ hl, upd_same, (by show 21 ≤ sizeLine; decide), fun q7 hq7 => ?_⟩
    have e7' : Same H6 (upd (upd H6 p7 (.lst [.bl (decide (i = 18)), .bl (decide (i = 19)), .bl (decide (i = 20))])) q7 (.lst ([.bl (decide (i = 0)), .bl (decide (i = 1)), .bl (decide (i = 2)), .bl (decide (i = 3)), .bl (decide (i = 4)), .bl (decide (i = 5)), .bl (decide (i = 6)), .bl (decide (i = 7)), .bl (decide (i = 8)), .bl (decide (i = 9)), .bl (decide (i = 10)), .bl (decide (i = 11)), .bl (decide (i = 12)), .bl (decide (i = 13)), .bl (decide (i = 14)), .bl (decide (i = 15)), .bl (decide (i = 16)), .bl (decide (i = 17))] ++ [.bl (decide (i = 18)), .bl (decide (i = 19)), .bl (decide (i = 20))]))) := (Same.upd hp7).trans (Same.upd hq7)
    replace hl : (upd (upd H6 p7 (.lst [.bl (decide (i = 18)), .bl (decide (i = 19)), .bl (decide (i = 20))])) q7 (.lst ([.bl (decide (i = 0)), .bl (decide (i = 1)), .bl (decide (i = 2)), .bl (decide (i = 3)), .bl (decide (i = 4)), .bl (decide (i = 5)), .bl (decide (i = 6)), .bl (decide (i = 7)), .bl (decide (i = 8)), .bl (decide (i = 9)), .bl (decide (i = 10)), .bl (decide (i = 11)), .bl (decide (i = 12)), .bl (decide (i = 13)), .bl (decide (i = 14)), .bl (decide (i = 15)), .bl (decide (i = 16)), .bl (decide (i = 17))] ++ [.bl (decide (i = 18)), .bl (decide (i = 19)), .bl (decide (i = 20))]))) q7 = some (.lst [.bl (decide (i = 0)), .bl (decide (i = 1)), .bl (decide (i = 2)), .bl (decide (i = 3)), .bl (decide (i = 4)), .bl (decide (i = 5)), .bl (decide (i = 6)), .bl (decide (i = 7)), .bl (decide (i = 8)), .bl (decide (i = 9)), .bl (decide (i = 10)), .bl (decide (i = 11)), .bl (decide (i = 12)), .bl (decide (i = 13)), .bl (decide (i = 14)), .bl (decide (i = 15)), .bl (decide (i = 16)), .bl (decide (i = 17)), .bl (decide (i = 18)), .bl (decide (i = 19)), .bl (decide (i = 20))]) := upd_same
    generalize upd (upd H6 p7 (.lst [.bl (decide (i = 18)), .bl (decide (i = 19)), .bl (decide (i = 20))])) q7 (.lst ([.bl (decide (i = 0)), .bl (decide (i = 1)), .bl (decide (i = 2)), .bl (decide (i = 3)), .bl (decide (i = 4)), .bl (decide (i = 5)), .bl (decide (i = 6)), .bl (decide (i = 7)), .bl (decide (i = 8)), .bl (decide (i = 9)), .bl (decide (i = 10)), .bl (decide (i = 11)), .bl (decide (i = 12)), .bl (decide (i = 13)), .bl (decide (i = 14)), .bl (decide (i = 15)), .bl (decide (i = 16)), .bl (decide (i = 17))] ++ [.bl (decide (i = 18)), .bl (decide (i = 19)), .bl (decide (i = 20))])) = H7 at e7' hl
    have e7 := e6.trans e7'
    replace ha := e7' _ _ ha
    replace hd : ∀ dd, d = some dd → ∃ fs, H7 dd = some (.xd fs) := fun dd z => by obtain ⟨fs, h⟩ := hd dd z; exact ⟨fs, e7' _ _ h⟩
    refine ⟨_, rfl, ?_⟩
    refine ⟨_, rfl, a, _, d, _, _, _, rfl, ha, hd, hC _ _ hx, .own _, hK _ 21 _ _ hx rfl, ?_⟩
    refine ⟨_, rfl, a, _, d, _, _, _, rfl, ha, hd, hC _ _ hx, .own _, hK _ 22 _ _ hx rfl, ?_⟩
    refine ⟨_, rfl, a, _, d, _, _, _, rfl, ha, hd, hC _ _ hx, .own _, hK _ 23 _ _ hx rfl, ?_⟩
    refine ⟨(by show 3 ≤ sizeLine; decide), fun p8 hp8 => ?_⟩
    refine ⟨_, _, _, _, rfl, rfl, Same.upd hp8 _ _ hl, upd_same, (by show 24 ≤ sizeLine; decide), fun q8 hq8 => ?_⟩
    have e8' : Same H7 (upd (upd H7 p8 (.lst [.bl (decide (i = 21)), .bl (decide (i = 22)), .bl (decide (i = 23))])) q8 (.lst ([.bl (decide (i = 0)), .bl (decide (i = 1)), .bl (decide (i = 2)), .bl (decide (i = 3)), .bl (decide (i = 4)), .bl (decide (i = 5)), .bl (decide (i = 6)), .bl (decide (i = 7)), .bl (decide (i = 8)), .bl (decide (i = 9)), .bl (decide (i = 10)), .bl (decide (i = 11)), .bl (decide (i = 12)), .bl (decide (i = 13)), .bl (decide (i = 14)), .bl (decide (i = 15)), .bl (decide (i = 16)), .bl (decide (i = 17)), .bl (decide (i = 18)), .bl (decide (i = 19)), .bl (decide (i = 20))] ++ [.bl (decide (i = 21)), .bl (decide (i = 22)), .bl (decide (i = 23))]))) := (Same.upd hp8).trans (Same.upd hq8)
    replace hl : (upd (upd H7 p8 (.lst [.bl (decide (i = 21)), .bl (decide (i = 22)), .bl (decide (i = 23))])) q8 (.lst ([.bl (decide (i = 0)), .bl (decide (i = 1)), .bl (decide (i = 2)), .bl (decide (i = 3)), .bl (decide (i = 4)), .bl (decide (i = 5)), .bl (decide (i = 6)), .bl (decide (i = 7)), .bl (decide (i = 8)), .bl (decide (i = 9)), .bl (decide (i = 10)), .bl (decide (i = 11)), .bl (decide (i = 12)), .bl (decide (i = 13)), .bl (decide (i = 14)), .bl (decide (i = 15)), .bl (decide (i = 16)), .bl (decide (i = 17)), .bl (decide (i = 18)), .bl (decide (i = 19)), .bl (decide (i = 20))] ++ [.bl (decide (i = 21)), .bl (decide (i = 22)), .bl (decide (i = 23))]))) q8 = some (.lst [.bl (decide (i = 0)), .bl (decide (i = 1)), .bl (decide (i = 2)), .bl (decide (i = 3)), .bl (decide (i = 4)), .bl (decide (i = 5)), .bl (decide (i = 6)), .bl (decide (i = 7)), .bl (decide (i = 8)), .bl (decide (i = 9)), .bl (decide (i = 10)), .bl (decide (i = 11)), .bl (decide (i = 12)), .bl (decide (i = 13)), .bl (decide (i = 14)), .bl (decide (i = 15)), .bl (decide (i = 16)), .bl (decide (i = 17)), .bl (decide (i = 18)), .bl (decide (i = 19)), .bl (decide (i = 20)), .bl (decide (i = 21)), .bl (decide (i = 22)), .bl (decide (i = 23))]) := upd_same
    generalize upd (upd H7 p8 (.lst [.bl (decide (i = 21)), .bl (decide (i = 22)), .bl (decide (i = 23))])) q8 (.lst ([.bl (decide (i = 0)), .bl (decide (i = 1)), .bl (decide (i = 2)), .bl (decide (i = 3)), .bl (decide (i = 4)), .bl (decide (i = 5)), .bl (decide (i = 6)), .bl (decide (i = 7)), .bl (decide (i = 8)), .bl (decide (i = 9)), .bl (decide (i = 10)), .bl (decide (i = 11)), .bl (decide (i = 12)), .bl (decide (i = 13)), .bl (decide (i = 14)), .bl (decide (i = 15)), .bl (decide (i = 16)), .bl (decide (i = 17)), .bl (decide (i = 18)), .bl (decide (i = 19)), .bl (decide (i = 20))] ++ [.bl (decide (i = 21)), .bl (decide (i = 22)), .bl (decide (i = 23))])) = H8 at e8' hl
    have e8 := e7.trans e8'
    replace ha := e8' _ _ ha
    replace hd : ∀ dd, d = some dd → ∃ fs, H8 dd = some (.xd fs) := fun dd z => by obtain ⟨fs, h⟩ := hd dd z; exact ⟨fs, e8' _ _ h⟩
    refine ⟨_, rfl, ?_⟩
    refine ⟨_, rfl, a, _, d, _, _, _, rfl, ha, hd, hC _ _ hx, .own _, hK _ 24 _ _ hx rfl, ?_⟩
    refine ⟨_, rfl, a, _, d, _, _, _, rfl, ha, hd, hC _ _ hx, .own _, hK _ 25 _ _ hx rfl, ?_⟩
    refine ⟨(by show 2 ≤ sizeLine; decide), fun p9 hp9 => ?_⟩
    refine ⟨_, _, _, _, rfl, rfl, Same.upd hp9 _ _ hl, upd_same, (by show 26 ≤ sizeLine; decide), fun q9 hq9 => ?_⟩
    have e9' : Same H8 (upd (upd H8 p9 (.lst [.bl (decide (i = 24)), .bl (decide (i = 25))])) q9 (.lst ([.bl (decide (i = 0)), .bl (decide (i = 1)), .bl (decide (i = 2)), .bl (decide (i = 3)), .bl (decide (i = 4)), .bl (decide (i = 5)), .bl (decide (i = 6)), .bl (decide (i = 7)), .bl (decide (i = 8)), .bl (decide (i = 9)), .bl (decide (i = 10)), .bl (decide (i = 11)), .bl (decide (i = 12)), .bl (decide (i = 13)), .bl (decide (i = 14)), .bl (decide (i = 15)), .bl (decide (i = 16)), .bl (decide (i = 17)), .bl (decide (i = 18)), .bl (decide (i = 19)), .bl (decide (i = 20)), .bl (decide (i = 21)), .bl (decide (i = 22)), .bl (decide (i = 23))] ++ [.bl (decide (i = 24)), .bl (decide (i = 25))]))) := (Same.upd hp9).trans (Same.upd hq9)
    replace hl : (upd (upd H8 p9 (.lst [.bl (decide (i = 24)), .bl (decide (i = 25))])) q9 (.lst ([.bl (decide (i = 0)), .bl (decide (i = 1)), .bl (decide (i = 2)), .bl (decide (i = 3)), .bl (decide (i = 4)), .bl (decide (i = 5)), .bl (decide (i = 6)), .bl (decide (i = 7)), .bl (decide (i = 8)), .bl (decide (i = 9)), .bl (decide (i = 10)), .bl (decide (i = 11)), .bl (decide (i = 12)), .bl (decide (i = 13)), .bl (decide (i = 14)), .bl (decide (i = 15)), .bl (decide (i = 16)), .bl (decide (i = 17)), .bl (decide (i = 18)), .bl (decide (i = 19)), .bl (decide (i = 20)), .bl (decide (i = 21)), .bl (decide (i = 22)), .bl (decide (i = 23))] ++ [.bl (decide (i = 24)), .bl (decide (i = 25))]))) q9 = some (.lst [.bl (decide (i = 0)), .bl (decide (i = 1)), .bl (decide (i = 2)), .bl (decide (i = 3)), .bl (decide (i = 4)), .bl (decide (i = 5)), .bl (decide (i = 6)), .bl (decide (i = 7)), .bl (decide (i = 8)), .bl (decide (i = 9)), .bl (decide (i = 10)), .bl (decide (i = 11)), .bl (decide (i = 12)), .bl (decide (i = 13)), .bl (decide (i = 14)), .bl (decide (i = 15)), .bl (decide (i = 16)), .bl (decide (i = 17)), .bl (decide (i = 18)), .bl (decide (i = 19)), .bl (decide (i = 20)), .bl (decide (i = 21)), .bl (decide (i = 22)), .bl (decide (i = 23)), .bl (decide (i = 24)), .bl (decide (i = 25))]) := upd_same
    have hfr : H q9 = none := (e8.trans (Same.upd hp9)).free hq9
    generalize upd (upd H8 p9 (.lst [.bl (decide (i = 24)), .bl (decide (i = 25))])) q9 (.lst ([.bl (decide (i = 0)), .bl (decide (i = 1)), .bl (decide (i = 2)), .bl (decide (i = 3)), .bl (decide (i = 4)), .bl (decide (i = 5)), .bl (decide (i = 6)), .bl (decide (i = 7)), .bl (decide (i = 8)), .bl (decide (i = 9)), .bl (decide (i = 10)), .bl (decide (i = 11)), .bl (decide (i = 12)), .bl (decide (i = 13)), .bl (decide (i = 14)), .bl (decide (i = 15)), .bl (decide (i = 16)), .bl (decide (i = 17)), .bl (decide (i = 18)), .bl (decide (i = 19)), .bl (decide (i = 20)), .bl (decide (i = 21)), .bl (decide (i = 22)), .bl (decide (i = 23))] ++ [.bl (decide (i = 24)), .bl (decide (i = 25))])) = H9 at e9' hl
    have e9 := e8.trans e9'
    replace ha := e9' _ _ ha
    replace hd : ∀ dd, d = some dd → ∃ fs, H9 dd = some (.xd fs) := fun dd z => by obtain ⟨fs, h⟩ := hd dd z; exact ⟨fs, e9' _ _ h⟩
    exact k q9 _ e9 hfr hl
def spCaught : Sp := fun vs H Q _ => ∃ v, vs = [v] ∧ ∀ H', Same H H' → Q (.str "plan") H'
theorem ok_caught (F : Fun Z.K "_law_caught" "_law_caught" s_lw_caught f fd) (hE : ExE Z CC "BadPrice" "value") (gN : Z.mg "BadNumber" = some (.ref (CC "BadNumber"))) (gP : Z.mg "PlanError" = some (.ref (CC "PlanError")))
    (eN : exmOne Z.K (.ref (CC "BadPrice")) (.ref (CC "BadNumber")) = some false) (eP : exmOne Z.K (.ref (CC "BadPrice")) (.ref (CC "PlanError")) = some true) : Z.ok CX0 3 f fd ["_law_thing"] spCaught := by
  refine F.ok sc_lw_caught (fun vs H Q E h => ?_) (fun cdv A outer s H vs Q E hr h => ?_)
  · obtain ⟨v, rfl, _⟩ := h
    rfl
  · obtain ⟨v, rfl, k⟩ := h
    obtain ⟨q, P, fI, T⟩ := hE
    have nd := sc_lw_caught.nd
    refine ⟨_, pss_one (ps_tryN (Wout := fun _ _ _ _ => False) rfl rfl nd takesN0
        (fun W pn xe tk _ => pss_one (ps_raiseX T fl_value hr tk (pa_cons (pv 0) pa_nil) (by rfl)))
        (HdsN.cons (i := 1) rfl rfl ⟨rfl, by decide, Or.inl gN⟩ (fun a oe cls d pn hz hf => pss_one (ps_ret pe_str)) (HdsN.cons (i := 1) rfl rfl ⟨rfl, by decide, Or.inl gP⟩ (fun a oe cls d pn hz hf => pss_one (ps_ret pe_str)) .nil))), ?_⟩
    refine ⟨v, rfl, v, rfl, fun d hd => ?_⟩
    exact ⟨false, eN, (fun z => by cases z), fun _ => ⟨true, eP, fun _ a ha => k _ (Same.upd hd), fun z => by cases z⟩⟩
end
end Ps

/-! k43: the law. -/
namespace Ps
open PySem PySem.Spec PyProof.Rows PySem.W L2

theorem lay_rep {d : PyData} (h : d.canLay0 = true) : ∀ n : Nat, PyData.canLayAll0 (List.replicate n d) = true
  | 0 => rfl
  | n + 1 => by
    rw [List.replicate_succ]
    show (d.canLay0 && PyData.canLayAll0 (List.replicate n d)) = true
    rw [h, lay_rep h n]
    rfl
theorem dep_rep {d : PyData} {m : Nat} (h : d.depth ≤ m) : ∀ n : Nat, PyData.depthAll (List.replicate n d) ≤ m
  | 0 => Nat.zero_le _
  | n + 1 => by
    rw [List.replicate_succ]
    show max d.depth (PyData.depthAll (List.replicate n d)) ≤ m
    have := dep_rep h n
    omega
theorem lay_list {ds : List PyData} : (PyData.list ds).canLay0 = PyData.canLayAll0 ds := by rfl
theorem shaped_rep {d : PyData} (h : d.canLay0 = true) (h2 : d.depth ≤ 5) (n : Nat) : SeqAt.shaped (.list (List.replicate n d)) = true := by
  unfold SeqAt.shaped
  rw [lay_list, lay_rep h]
  have := dep_rep h2 n
  show decide (PyData.depthAll (List.replicate n d) + 1 ≤ 64) = true
  exact decide_eq_true (by omega)
theorem dp_rep {K : Frag} {H : Hp} {v : V} {d : PyData} (h : Dp K H v d) : ∀ n : Nat, DpAll K H (List.replicate n v) (List.replicate n d)
  | 0 => .nil
  | n + 1 => by
    rw [List.replicate_succ, List.replicate_succ]
    exact .cons h (dp_rep h n)
theorem rep_flat (v : V) : ∀ n : Nat, (List.replicate n [v]).flatten = List.replicate n v
  | 0 => rfl
  | n + 1 => by rw [List.replicate_succ, List.flatten_cons, rep_flat v n, List.replicate_succ]; rfl
theorem dp_bls {K : Frag} {H : Hp} : ∀ bs : List Bool, DpAll K H (bs.map V.bl) (bs.map PyData.bool)
  | [] => .nil
  | b :: r => .cons (.bl b) (dp_bls r)
theorem lay_bls : ∀ bs : List Bool, PyData.canLayAll0 (bs.map PyData.bool) = true
  | [] => rfl
  | b :: r => by
    show ((PyData.bool b).canLay0 && PyData.canLayAll0 (r.map PyData.bool)) = true
    rw [lay_bls r]
    rfl
theorem dep_bls : ∀ bs : List Bool, PyData.depthAll (bs.map PyData.bool) ≤ 0
  | [] => Nat.le_refl _
  | b :: r => by
    show max (PyData.bool b).depth (PyData.depthAll (r.map PyData.bool)) ≤ 0
    have := dep_bls r
    have e : (PyData.bool b).depth = 0 := rfl
    omega
theorem shaped_bls (bs : List Bool) : SeqAt.shaped (.list (bs.map PyData.bool)) = true := by
  unfold SeqAt.shaped
  rw [lay_list, lay_bls]
  have := dep_bls bs
  show decide (PyData.depthAll (bs.map PyData.bool) + 1 ≤ 64) = true
  exact decide_eq_true (by omega)
theorem str_lay : ∀ k : Fin 400, (PyData.str (toString ((k.val : Nat) : Int))).canLay0 = true := by decide +kernel
/-- a thing and its data -/
def Th (K : Frag) (H : Hp) (v : V) : Prop := ∃ d, Dp K H v d ∧ d.canLay0 = true ∧ d.depth ≤ 5
def bRow (i n : Nat) : List Bool := (List.range n).map fun j => decide (i = j)
theorem isRow_eq (i : Nat) : isRow i = (bRow i 26).map V.bl := rfl
theorem bRow_snoc (i n : Nat) : bRow i (n + 1) = bRow i n ++ [decide (i = n)] := by
  unfold bRow
  rw [List.range_succ, List.map_append]
  rfl
section
variable {Z : Cz} {f : Addr} {fd : FuncData} {CC : Str → Addr}
theorem ok_law (F : Fun Z.K "law" "law" s_lw_law f fd) (T : DrT Z) (ms : Z.mg "str" = none) (me : Z.mg "enumerate" = none) (isi : Z.mg "isinstance" = none) (gP : Z.mg "PlanError" = some (.ref (CC "PlanError")))
    (hC : ∀ (i : Nat) (x : Str), cls26[i]? = some x → ExcC Z.K (CC x)) (hP : ∀ (i : Nat) (x : Str), cls26[i]? = some x → kitOne Z.K (.ref (CC x)) (.ref (CC "PlanError")) = some true)
    (c_lw_opened : Cal Z CX0 3 "_law_opened" ["_law_script", "_law_k", "_law_many"] [] (spOpened Z.K)) (c_lw_draw : Cal Z CX0 1 "_law_draw" ["_law_pool_here", "_law_many"] [] spDraw)
    (c_lw_fields : Cal Z CX0 3 "_law_fields" ["_law_thing"] [] spFields) (c_lw_caught : Cal Z CX0 3 "_law_caught" ["_law_thing"] [] spCaught) (c_lw_objects : Cal Z CX0 3 "_law_objects" ["_law_thing"] [] (spObjects CC)) (c_lw_classes : Cal Z CX0 1 "_law_classes" ["_law_one"] [] (spClasses CC)) :
    Z.ok CX0 9 f fd ["_law_script"] (spLaw Z.K) := by
  refine F.ok sc_lw_law (fun vs H Q E h => ?_) (fun cdv A outer s H vs Q E hr h => ?_)
  · obtain ⟨a, ns, rfl, _⟩ := h
    rfl
  · obtain ⟨a, ns, rfl, hS, hl, k⟩ := h
    refine ⟨_, (pss_cons (ps_for PassesOwn.never rfl (pi_range1 (by rfl) T.range (pa_cons (pe_callB (call_max2 rfl) (by rfl) T.max (by decide +kernel) (pa_cons pe_int (pa_cons (pe_callB (call_min2 rfl) (by rfl) T.min (by decide +kernel) (pa_cons (pe_callB call_len_seq (by rfl) T.len PySem.boot_len (pa_cons (pv 0) pa_nil)) (pa_cons pe_int pa_nil))) pa_nil))) pa_nil)) (pg_name (i := 1) sc_lw_law.nd rfl (Or.inl rfl))
      (pss_cons (ps_set (i := 2) sc_lw_law.nd rfl (Or.inl rfl) (pe_cal c_lw_opened (hr.mono (by decide)) (by rfl) pass0 (pa_cons (pv 0) (pa_cons (pv 1) (pa_cons pe_int pa_nil)))))
        (pss_cons (ps_set (i := 3) sc_lw_law.nd rfl (Or.inl rfl) (pe_cal c_lw_draw (hr.mono (by decide)) (by rfl) pass0 (pa_cons (pv 2) (pa_cons pe_int pa_nil))))
        (pss_one (ps_for PassesOwn.never rfl (pi_list (pe_lst (pa_cons (pv 3) (pa_cons (pe_callTy call_str_int (by rfl) ms (by decide +kernel) (pa_cons (pv 3) pa_nil)) (pa_cons (pe_lst (pa_cons (pv 3) pa_nil)) (pa_cons pe_non pa_nil)))))) (pg_name (i := 4) sc_lw_law.nd rfl (Or.inl rfl))
        (pss_cons (ps_if (PW.pt (pw_or (pt_cmpR (op_neD hr.units) (pe_cal c_lw_fields (hr.mono (by decide)) (by rfl) pass0 (pa_cons (pv 4) pa_nil)) (pe_op op_rep (pe_lst (pa_cons (pv 4) pa_nil)) pe_int) (nomark _)) (pw_or1 (pt_cmpR op_ne (pe_cal c_lw_caught (hr.mono (by decide)) (by rfl) pass0 (pa_cons (pv 4) pa_nil)) pe_str (nomark _)))))
          (pss_one (ps_ret pe_bl))
          pss_nil)
          (pss_one (ps_for PassesOwn.never rfl (pi_enum (by rfl) me (pa_cons (pe_cal c_lw_objects (hr.mono (by decide)) (by rfl) pass0 (pa_cons (pv 4) pa_nil)) pa_nil)) (pg_tup (by rfl) (pgs_cons (pg_name (i := 5) sc_lw_law.nd rfl (Or.inr rfl)) (pgs_cons (pg_name (i := 6) sc_lw_law.nd rfl (Or.inl rfl)) pgs_nil)))
          (pss_one (ps_if (PW.pt (pw_or (pt_cmpR (op_neD hr.units) (pe_cal c_lw_classes (hr.mono (by decide)) (by rfl) pass0 (pa_cons (pv 6) pa_nil)) (pe_lc (own := [("_law_j", 7)]) (g := gName 7) (tt := tYes) (by rfl) sc_lw_law.nd (pi_range1 (by rfl) T.range (pa_cons pe_int pa_nil)) (blkOk_by (own := [("_law_j", 7)]) (N := ["_law_script", "_law_k", "_law_pool_here", "_law_amount", "_law_thing", "_law_at", "_law_one", "_law_j"]) (sc := defScope s_lw_law) (by decide +kernel)) (fun _ _ _ _ _ => (pg_name (i := 7) sc_lw_law.nd rfl (Or.inl rfl))) (fun _ _ _ _ _ => pts_nil) (fun _ _ _ _ _ => (pe_cmpR op_eq (pv 5) (pv 7) (nomark _)))) (nomark _)) (pw_or1 (pt_not (pt_val (pe_callB (show CallR _ _ (rIsEv Z.K) from call_isEv) (by rfl) isi (by decide +kernel) (pa_cons (pv 6) (pa_cons (pe_glob (v := .ref (CC "PlanError")) rfl gP rfl) pa_nil))))))))
            (pss_one (ps_ret pe_bl))
            pss_nil))))))))))
      (pss_one (ps_ret pe_bl))), ?_⟩
    have hln : (ns.map V.int).length = ns.length := List.length_map ..
    refine ⟨_, rfl, a, _, rfl, .inl hS, _, _, rfl, _, _, rfl, _, rfl, ?_, ?_, for_range (lo := 0) (fun i σ H' => ∃ o1 o2 o3 o4 o5 o6 o7, σ = [some (.ref a), o1, o2, o3, o4, o5, o6, o7] ∧ Same H H') ⟨_, _, _, _, _, _, _, rfl, Same.refl _⟩ ?_ ?_⟩
    · split <;> split <;> omega
    · split <;> split <;> omega
    · rintro i σ H1 hi ⟨o1, o2, o3, o4, o5, o6, o7, rfl, e1⟩
      have hi' : i < ns.length ∨ (ns = [] ∧ i = 0) := by
        cases ns with
        | nil => exact .inr ⟨rfl, by simp at hi; omega⟩
        | cons n r =>
          refine .inl ?_
          simp only [List.length_map, List.length_cons] at hi ⊢
          revert hi
          split <;> split <;> omega
      have hi8 : i ≤ 1000 := by
        rcases hi' with h | h
        · omega
        · omega
      rw [Int.zero_add]
      refine ⟨_, rfl, _, rfl, a, ns, i, 4, rfl, e1.seq hS, hi', hi8, by decide, by decide, fun p q H2 ms e2 hp hq P2 => ?_⟩
      have hp0 : H p = none := e1.free hp
      refine ⟨_, rfl, p, q, ms, 0, 400, rfl, P2, by decide, by decide, fun r H3 r0 r1 e3 P3 => ?_⟩
      have e03 : Same H H3 := Keep.same (e1.trans e2) hp0 (Keep.of_eq e3)
      obtain ⟨n, rfl⟩ : ∃ n : Nat, r = n := ⟨r.toNat, by omega⟩
      have hn : n < 400 := by omega
      -- the things
      refine ⟨_, rfl, _, rfl, n, rfl, ?_, _, rfl, (by show 1 ≤ sizeLine; decide), fun l1 hl1 => ?_⟩
      · show n.log2 < 1920
        exact Nat.lt_of_le_of_lt (Nat.log2_le_self n) (by omega)
      refine ⟨(by show 4 ≤ sizeLine; decide), fun L hL => ?_⟩
      have e4 : Same H3 (upd (upd H3 l1 (.lst [.int n])) L (.lst [.int n, .str (toString (n : Int)), .ref l1, .non])) := (Same.upd hl1).trans (Same.upd hL)
      have hl4 := Same.upd (o := .lst [.int n, .str (toString (n : Int)), .ref l1, .non]) hL l1 (.lst [.int n]) upd_same
      have hL4 : (upd (upd H3 l1 (.lst [.int n])) L (.lst [.int n, .str (toString (n : Int)), .ref l1, .non])) L = _ := upd_same
      generalize (upd (upd H3 l1 (.lst [.int n])) L (.lst [.int n, .str (toString (n : Int)), .ref l1, .non])) = H4 at e4 hl4 hL4
      refine ⟨L, rfl, ⟨_, SqL.of hL4⟩, for_list (K := Z.K) (a := L) (xs := [.int n, .str (toString (n : Int)), .ref l1, .non]) (fun j σ H' => ∃ o4 o5 o6 o7, σ = [some (.ref a), some (.int i), some (.ref p), some (.int n), o4, o5, o6, o7] ∧ Same H4 H') ⟨_, _, _, _, rfl, Same.refl _⟩ (fun j σ H' _ ⟨_, _, _, _, _, e⟩ => SqL.of (e _ _ hL4)) ?_ ?_⟩
      · rintro j v σ H5 hv ⟨o4, o5, o6, o7, rfl, e5⟩
        have hT : Th Z.K H5 v := by
          have := List.mem_of_getElem? hv
          simp only [List.mem_cons, List.not_mem_nil, or_false] at this
          rcases this with rfl | rfl | rfl | rfl
          · exact ⟨_, .int _, rfl, by show 0 ≤ 5; decide⟩
          · exact ⟨_, .str _, str_lay ⟨n, hn⟩, by show 0 ≤ 5; decide⟩
          · exact ⟨_, .lst (SqL.of (e5 _ _ hl4)) (.cons (.int _) .nil), rfl, by show 1 ≤ 5; decide⟩
          · exact ⟨_, .non, rfl, by decide⟩
        obtain ⟨d, hd, hcl, hdp⟩ := hT
        -- fields
        refine ⟨_, rfl, v, rfl, fun p6 H6 e6 hp6 h6 => ?_⟩
        refine ⟨_, rfl, (by show 1 ≤ sizeLine; decide), fun l7 hl7 => ?_⟩
        refine ⟨l7, 25, _, rfl, rfl, upd_same, by decide, by decide, (by show 1 * 25 ≤ sizeLine; decide), fun l8 hl8 => ?_⟩
        have e8 : Same H6 (upd (upd H6 l7 (.lst [v])) l8 (.lst (List.replicate (Int.toNat 25) [v]).flatten)) := (Same.upd hl7).trans (Same.upd hl8)
        have h8 : (upd (upd H6 l7 (.lst [v])) l8 (.lst (List.replicate (Int.toNat 25) [v]).flatten)) l8 = some (.lst (List.replicate 25 v)) := by rw [upd_same, rep_flat]; rfl
        show ∃ d e, _
        generalize (upd (upd H6 l7 (.lst [v])) l8 (.lst (List.replicate (Int.toNat 25) [v]).flatten)) = H8 at e8 h8
        have hd8 := Dp.mono (e6.trans e8) hd
        refine ⟨.list (List.replicate 25 d), .list (List.replicate 25 d), .lst (SqL.of (e8 _ _ h6)) (dp_rep hd8 25), .lst (SqL.of h8) (dp_rep hd8 25), shaped_rep hcl hdp 25, shaped_rep hcl hdp 25, _, rfl, ?_⟩
        rw [SeqAt.eqv_refl _ (lay_list.trans (lay_rep hcl 25))]
        refine iteF ?_
        refine ⟨_, rfl, v, rfl, fun H9 e9 => ?_⟩
        refine ⟨rfl, _, rfl, iteNS rfl ?_⟩
        -- objects
        refine ⟨_, rfl, v, rfl, fun pw H10 ws e10 hpw h10 al => ?_⟩
        refine ⟨pw, ws, rfl, SqL.of h10, for_it (walk_enum (K := Z.K) (a := pw) (xs := ws)) (fun m σ H' => ∃ o5 o6 o7, σ = [some (.ref a), some (.int i), some (.ref p), some (.int n), some v, o5, o6, o7] ∧ Same H10 H') ⟨_, _, _, rfl, Same.refl _⟩ (fun m σ H' _ ⟨_, _, _, _, e⟩ => SqL.of (e _ _ h10)) ?_ ?_⟩
        · rintro m x σ H11 H12 hm ⟨o5, o6, o7, rfl, e11⟩ ⟨t, u1, w, rfl, ht, rfl, hu1, hw⟩
          cases hu1
          obtain ⟨c, hc, hev⟩ := al.get hw
          have hm26 : m < 26 := (List.getElem?_eq_some_iff.mp hc).1
          have e12 : Same H11 (upd H11 t (.tup [.int m, w])) := Same.upd ht
          have ht12 : (upd H11 t (.tup [.int m, w])) t = _ := upd_same
          generalize (upd H11 t (.tup [.int m, w])) = H12 at e12 ht12
          have hev12 := (hev.mono e11).mono e12
          refine ⟨t, _, rfl, SqT.of ht12, rfl, _, _, rfl, _, _, rfl, rfl, ?_⟩
          refine ⟨_, rfl, w, c, m, rfl, hc, hev12, fun p13 H13 e13 hp13 h13 => ?_⟩
          refine ⟨26, rfl, by decide, by decide, fun G hG => lc_range (lo := 0) (n := 26) (fun j H' => H' G = some (.lst ((bRow m j).map V.bl)) ∧ Same H13 H') ⟨upd_same, Same.upd hG⟩ ?_ ?_⟩
          · rintro j H14 hj ⟨hG14, e14⟩
            refine ⟨rfl, _, rfl, _, rfl, rfl, _, hG14, ?_, ?_, ?_⟩
            · rw [List.length_map]
              unfold bRow
              rw [List.length_map, List.length_range]
              exact small1000' (by omega)
            · rw [upd_same, bRow_snoc, List.map_append]
              have : decide (V.int (m : Int) = V.int (0 + (j : Int))) = decide (m = j) := decide_eq_decide.mpr ⟨fun z => by have := V.int.inj z; omega, fun z => by rw [z, Int.zero_add]⟩
              rw [this]
              rfl
            · intro b u hb
              rw [upd_ne (ne_of_none hb hG)]
              exact e14 _ _ hb
          rintro H14 ⟨hG14, e14⟩
          refine ⟨.list ((bRow m 26).map PyData.bool), .list ((bRow m 26).map PyData.bool), .lst (SqL.of ((isRow_eq m) ▸ e14 _ _ h13)) (dp_bls (bRow m 26)), .lst (SqL.of hG14) (dp_bls _), shaped_bls _, shaped_bls _, _, rfl, ?_⟩
          rw [SeqAt.eqv_refl _ (lay_list.trans (lay_bls _))]
          refine iteF ?_
          obtain ⟨aw, dw, rfl, haw, hdw⟩ := (hev12.mono e13).mono e14
          refine ⟨_, rfl, aw, _, dw, _, _, _, rfl, haw, hdw, hC _ _ hc, .own _, hP _ _ hc, _, rfl, iteF ?_⟩
          exact ⟨_, _, _, rfl, ((e11.trans e12).trans e13).trans e14⟩
        · rintro σ H11 ⟨o5, o6, o7, rfl, e11⟩
          exact ⟨_, _, _, _, rfl, (((((e5.trans e6).trans e8).trans e9).trans e10).trans e11)⟩
      · rintro σ H5 ⟨o4, o5, o6, o7, rfl, e5⟩
        exact ⟨_, _, _, _, _, _, _, rfl, (e03.trans e4).trans e5⟩
    · rintro σ H1 _
      exact k _
end
end Ps

/-! Own errors behind the top. -/
namespace Ps
open PySem PySem.Spec PyProof.Rows PySem.W L2 He

def excObjB (K : Frag) (C P : Addr) : Bool := match K.lookup C with
  | some ⟨.type "type", _, .cls cd, sl⟩ => (match sl.toList with
    | [_, _, _, _, some (.builtin n), _] => decide (cd.mro = .ref C :: .ref P :: ESX.exTail) && (decide (n = "Exception.__new__") && (!cd.hasDel && cd.hasDict))
    | _ => false)
  | _ => false
theorem excObjB_ok {K : Frag} {C P : Addr} (h : excObjB K C P = true) : ∃ nm q N bs sn sub ab col dd k0 k1 k2 k3 k5, K.lookup C = some (excClassObj nm q C N bs (.ref P :: ESX.exTail) true sn sub ab col dd k0 k1 k2 k3 k5 "Exception.__new__") := by
  unfold excObjB at h
  split at h
  · rename_i dd cd sl ho
    split at h
    · rename_i k0 k1 k2 k3 n k5 hs
      obtain ⟨h1, h⟩ := ba h
      obtain ⟨h2, h⟩ := ba h
      obtain ⟨h3, h4⟩ := ba h
      have h1 := of_decide_eq_true h1
      have h2 := of_decide_eq_true h2
      obtain ⟨nm, bs, mro, ns, qn, hd, sn, sub, ab, col, del⟩ := cd
      dsimp only at h1 h3 h4
      have h3 : del = false := by simpa using h3
      subst h1 h2 h3 h4
      have hsl : sl = #[k0, k1, k2, k3, some (.builtin "Exception.__new__"), k5] := by
        obtain ⟨l⟩ := sl
        simp only at hs
        rw [hs]
      subst hsl
      exact ⟨nm, qn, ns, bs, sn, sub, ab, col, dd, k0, k1, k2, k3, k5, ho⟩
    · cases h
  · cases h
def excB (K : Frag) (x fl : Str) : Bool := excObjB K (ga K x) (ga K "PlanError") && ((Fa.glo x).ok K && (eqO (findIn K (.ref (ga K x)) "__setattr__") (some (some (.builtin "object.__setattr__"))) && (eqO (findIn K (.ref (ga K x)) fl) (some none) &&
  (keepIn K (.ref (ga K x)) && (decide (typeIn K (.ref (ga K x)) = some (.type "type")) && xfB K (ga K x))))))
theorem excB_ok {K : Frag} {h : Heap} {mg : Str → Option Value} {x fl qual : Str} {st : Stmt} {f : Addr} {fd : FuncData} {p1 p2 q1 q2 q3 q4 : Pos} (X : K.In h) (G : h.Ns mainGlobals mg) (c : excB K x fl = true) (g : GotM K (ga K x) "__init__" qual st f fd)
    (hA : defArgs st = xA fl p1 p2) (hB : defBody st = xB fl q1 q2 q3 q4) (hS : defScope st = xS fl) : ExT K mg x fl qual (ga K x) (ga K "PlanError") f := by
  obtain ⟨c1, c⟩ := ba c
  obtain ⟨c2, c⟩ := ba c
  obtain ⟨c3, c⟩ := ba c
  obtain ⟨c4, c⟩ := ba c
  obtain ⟨c5, c⟩ := ba c
  obtain ⟨c6, c7⟩ := ba c
  obtain ⟨oc, od, kV, doc, pm, an, cdv, ct, osl, rfl, lk, hcd⟩ := g.F.ex
  rw [hA, hB, hS] at lk
  exact ⟨glo_ok X G c2, excObjB_ok c1, eqO_ok c3, eqO_ok c4, g.o.fn, beq_iff_eq.mp g.o.isf, c5, of_decide_eq_true c6, xfB_ok c7, ⟨oc, od, kV, doc, pm, an, cdv, ct, osl, p1, p2, q1, q2, q3, q4, lk, hcd⟩⟩
def exmB (K : Frag) (x y : Str) (b : Bool) : Bool := decide (exmOne K (.ref (ga K x)) (.ref (ga K y)) = some b)
def noSubB (K : Frag) (C : Addr) (Ts : List String) : Bool := Ts.all fun T => decide (subIn K (.ref C) (.type T) = some false)
end Ps

/-! k43: the end. -/
namespace Ps
open PySem PySem.Spec PyProof.Rows PySem.W L2 He

def fnAll : List DefP := [⟨.m "BadArgument" "__init__", "__init__", "BadArgument.__init__", s_BadArgument_dd_init, []⟩,
  ⟨.m "BadPrice" "__init__", "__init__", "BadPrice.__init__", s_BadPrice_dd_init, []⟩,
  ⟨.m "BadBook" "__init__", "__init__", "BadBook.__init__", s_BadBook_dd_init, []⟩,
  ⟨.m "BadState" "__init__", "__init__", "BadState.__init__", s_BadState_dd_init, []⟩,
  ⟨.m "BadRow" "__init__", "__init__", "BadRow.__init__", s_BadRow_dd_init, []⟩,
  ⟨.m "BadParts" "__init__", "__init__", "BadParts.__init__", s_BadParts_dd_init, []⟩,
  ⟨.m "BadRows" "__init__", "__init__", "BadRows.__init__", s_BadRows_dd_init, []⟩,
  ⟨.m "BadSort" "__init__", "__init__", "BadSort.__init__", s_BadSort_dd_init, []⟩,
  ⟨.m "BadNumber" "__init__", "__init__", "BadNumber.__init__", s_BadNumber_dd_init, []⟩,
  ⟨.m "BadPlan" "__init__", "__init__", "BadPlan.__init__", s_BadPlan_dd_init, []⟩,
  ⟨.m "BadWay" "__init__", "__init__", "BadWay.__init__", s_BadWay_dd_init, []⟩,
  ⟨.m "NoNode" "__init__", "__init__", "NoNode.__init__", s_NoNode_dd_init, []⟩,
  ⟨.m "TooLarge" "__init__", "__init__", "TooLarge.__init__", s_TooLarge_dd_init, []⟩,
  ⟨.m "BadMenu" "__init__", "__init__", "BadMenu.__init__", s_BadMenu_dd_init, []⟩,
  ⟨.m "BadChange" "__init__", "__init__", "BadChange.__init__", s_BadChange_dd_init, []⟩,
  ⟨.m "BadText" "__init__", "__init__", "BadText.__init__", s_BadText_dd_init, []⟩,
  ⟨.m "BadName" "__init__", "__init__", "BadName.__init__", s_BadName_dd_init, []⟩,
  ⟨.m "NameTaken" "__init__", "__init__", "NameTaken.__init__", s_NameTaken_dd_init, []⟩,
  ⟨.m "Dearer" "__init__", "__init__", "Dearer.__init__", s_Dearer_dd_init, []⟩,
  ⟨.m "FailedDeed" "__init__", "__init__", "FailedDeed.__init__", s_FailedDeed_dd_init, []⟩,
  ⟨.m "BadCommand" "__init__", "__init__", "BadCommand.__init__", s_BadCommand_dd_init, []⟩,
  ⟨.m "BadShare" "__init__", "__init__", "BadShare.__init__", s_BadShare_dd_init, []⟩,
  ⟨.m "DividedByNothing" "__init__", "__init__", "DividedByNothing.__init__", s_DividedByNothing_dd_init, []⟩,
  ⟨.m "BadKind" "__init__", "__init__", "BadKind.__init__", s_BadKind_dd_init, []⟩,
  ⟨.m "UnknownName" "__init__", "__init__", "UnknownName.__init__", s_UnknownName_dd_init, []⟩,
  ⟨.g "_law_numbers", "_law_numbers", "_law_numbers", s_lw_numbers, []⟩,
  ⟨.g "_law_pool", "_law_pool", "_law_pool", s_lw_pool, []⟩,
  ⟨.g "_law_draw", "_law_draw", "_law_draw", s_lw_draw, []⟩,
  ⟨.g "_law_opened", "_law_opened", "_law_opened", s_lw_opened, []⟩,
  ⟨.g "_law_objects", "_law_objects", "_law_objects", s_lw_objects, []⟩,
  ⟨.g "_law_classes", "_law_classes", "_law_classes", s_lw_classes, []⟩,
  ⟨.g "_law_fields", "_law_fields", "_law_fields", s_lw_fields, []⟩,
  ⟨.g "_law_caught", "_law_caught", "_law_caught", s_lw_caught, []⟩,
  ⟨.g "law", "law", "law", s_lw_law, []⟩]
def exccB (K : Frag) (C : Addr) : Bool := eqO (findIn K (.ref C) "__getattribute__") (some (some (.builtin "BaseException.__getattribute__"))) && (eqO (findIn K (.ref C) "__getattr__") (some none) && (decide (subIn K (.ref C) (.type "BaseException") = some true) && (hasDictIn K C && (eqO (findIn K (.ref C) "__class__") (some (some (.builtin "object.__class__"))) &&
  (eqO (specialIn K (.builtin "object.__class__") "__get__") (some (some (.builtin "getset_descriptor.__get__"))) && (decide (takesIn K (.builtin "object.__class__") = some true) && decide (mroIn K C (.type "object") = some true)))))))
theorem exccB_ok {K : Frag} {C : Addr} (c : exccB K C = true) : ExcC K C := by
  obtain ⟨c1, c⟩ := ba c
  obtain ⟨c2, c⟩ := ba c
  obtain ⟨c3, c⟩ := ba c
  obtain ⟨c4, c⟩ := ba c
  obtain ⟨c5, c⟩ := ba c
  obtain ⟨c6, c⟩ := ba c
  obtain ⟨c7, c8⟩ := ba c
  exact ⟨eqO_ok c1, eqO_ok c2, of_decide_eq_true c3, c4, eqO_ok c5, eqO_ok c6, of_decide_eq_true c7, of_decide_eq_true c8⟩
def clsAt (i : Nat) : Str := cls26.getD i ""
theorem clsAt_eq {i : Nat} {x : Str} (h : cls26[i]? = some x) : clsAt i = x ∧ i < 26 := by
  refine ⟨?_, (List.getElem?_eq_some_iff.mp h).1⟩
  unfold clsAt
  rw [List.getD_eq_getElem?_getD, h]
  rfl
def kitB (K : Frag) : Bool := (List.range 26).all fun i => (List.range 26).all fun j => decide (kitOne K (.ref (ga K (clsAt i))) (.ref (ga K (clsAt j))) = some (decide (i = j)))
def exErr (K : Frag) : Bool := errs.all fun e => excB K e.1 e.2
def exGlo (K : Frag) : Bool := (("PlanError" : Str) :: cls26).all fun x => (Fa.glo x).ok K
def exCls (K : Frag) : Bool := cls26.all fun x => exccB K (ga K x) && decide (kitOne K (.ref (ga K x)) (.ref (ga K "PlanError")) = some true)
def exAll (K : Frag) : Bool := freeB K ["int", "len", "range", "max", "min", "str", "enumerate", "isinstance"] && (exErr K && (exGlo K && (exCls K && (kitB K && (exmB K "BadPrice" "BadNumber" false && (exmB K "BadPrice" "PlanError" true && (excIn K (ga K "NothingToUndo") ESX.exTail "Exception.__new__" && keepIn K (.ref (ga K "NothingToUndo")))))))))
abbrev Rw : OpenRow := OpenLaw.row PySem.Challenge.rw_planswitches_k43_classes_of_errors
abbrev hk : Hook := hookP 6 fnAll exAll
def ob (s : SharedT) : AlP := obsPG 6 fnAll exAll (HandSHeadRun.getT s)
theorem ob_eq (s : SharedT) : ob s = hk.obs s.abs := obsPG_eq (HandSHeadRun.getT_eq s)
def loose : List PySem.Str := (["__name__", "PlanError", "BadArgument", "BadPrice", "BadBook", "BadState", "BadRow", "BadParts", "BadRows", "BadSort", "BadNumber", "BadPlan", "BadWay", "NoNode", "TooLarge", "BadMenu", "BadChange", "BadText", "BadName", "NameTaken"] : List PySem.Str) ++ (["Dearer", "FailedDeed", "BadCommand", "NothingToUndo", "BadShare", "DividedByNothing", "BadKind", "UnknownName", "_law_numbers", "_law_pool", "_law_draw", "_law_opened", "_law_objects", "_law_classes", "_law_fields", "_law_caught"] : List PySem.Str)
theorem run (w : World) : HandSHeadRun.RunEq Rw (view Rw.prog [37]) hk ob 20000 loose w := by
  intro os
  kernel_rfl
theorem facts {P : Program} {w : World} {K : Frag} {h : Heap} {mg : Str → Option Value} {f : Addr} (X : K.In h) (G : h.Ns mainGlobals mg) (hfa : mg ("law" : Str) = some (.ref f)) (c : SaysP fnAll exAll K) :
    ∃ fd : FuncData, (∀ (s : Shared) (v : Value), BindsTo s fd ⟨[v], []⟩ [("_law_script", v)]) ∧ ∀ base : Heap, K.In base → base.Ns mainGlobals mg → FnOk P w K mg base CX0 9 f fd ["_law_script"] (spLaw K) := by
  obtain ⟨f_BadArgument_dd_init, fd_BadArgument_dd_init, g_BadArgument_dd_init⟩ := c.meth 0 rfl
  obtain ⟨f_BadPrice_dd_init, fd_BadPrice_dd_init, g_BadPrice_dd_init⟩ := c.meth 1 rfl
  obtain ⟨f_BadBook_dd_init, fd_BadBook_dd_init, g_BadBook_dd_init⟩ := c.meth 2 rfl
  obtain ⟨f_BadState_dd_init, fd_BadState_dd_init, g_BadState_dd_init⟩ := c.meth 3 rfl
  obtain ⟨f_BadRow_dd_init, fd_BadRow_dd_init, g_BadRow_dd_init⟩ := c.meth 4 rfl
  obtain ⟨f_BadParts_dd_init, fd_BadParts_dd_init, g_BadParts_dd_init⟩ := c.meth 5 rfl
  obtain ⟨f_BadRows_dd_init, fd_BadRows_dd_init, g_BadRows_dd_init⟩ := c.meth 6 rfl
  obtain ⟨f_BadSort_dd_init, fd_BadSort_dd_init, g_BadSort_dd_init⟩ := c.meth 7 rfl
  obtain ⟨f_BadNumber_dd_init, fd_BadNumber_dd_init, g_BadNumber_dd_init⟩ := c.meth 8 rfl
  obtain ⟨f_BadPlan_dd_init, fd_BadPlan_dd_init, g_BadPlan_dd_init⟩ := c.meth 9 rfl
  obtain ⟨f_BadWay_dd_init, fd_BadWay_dd_init, g_BadWay_dd_init⟩ := c.meth 10 rfl
  obtain ⟨f_NoNode_dd_init, fd_NoNode_dd_init, g_NoNode_dd_init⟩ := c.meth 11 rfl
  obtain ⟨f_TooLarge_dd_init, fd_TooLarge_dd_init, g_TooLarge_dd_init⟩ := c.meth 12 rfl
  obtain ⟨f_BadMenu_dd_init, fd_BadMenu_dd_init, g_BadMenu_dd_init⟩ := c.meth 13 rfl
  obtain ⟨f_BadChange_dd_init, fd_BadChange_dd_init, g_BadChange_dd_init⟩ := c.meth 14 rfl
  obtain ⟨f_BadText_dd_init, fd_BadText_dd_init, g_BadText_dd_init⟩ := c.meth 15 rfl
  obtain ⟨f_BadName_dd_init, fd_BadName_dd_init, g_BadName_dd_init⟩ := c.meth 16 rfl
  obtain ⟨f_NameTaken_dd_init, fd_NameTaken_dd_init, g_NameTaken_dd_init⟩ := c.meth 17 rfl
  obtain ⟨f_Dearer_dd_init, fd_Dearer_dd_init, g_Dearer_dd_init⟩ := c.meth 18 rfl
  obtain ⟨f_FailedDeed_dd_init, fd_FailedDeed_dd_init, g_FailedDeed_dd_init⟩ := c.meth 19 rfl
  obtain ⟨f_BadCommand_dd_init, fd_BadCommand_dd_init, g_BadCommand_dd_init⟩ := c.meth 20 rfl
  obtain ⟨f_BadShare_dd_init, fd_BadShare_dd_init, g_BadShare_dd_init⟩ := c.meth 21 rfl
  obtain ⟨f_DividedByNothing_dd_init, fd_DividedByNothing_dd_init, g_DividedByNothing_dd_init⟩ := c.meth 22 rfl
  obtain ⟨f_BadKind_dd_init, fd_BadKind_dd_init, g_BadKind_dd_init⟩ := c.meth 23 rfl
  obtain ⟨f_UnknownName_dd_init, fd_UnknownName_dd_init, g_UnknownName_dd_init⟩ := c.meth 24 rfl
  obtain ⟨f_lw_numbers, fd_lw_numbers, g_lw_numbers⟩ := c.glo X G 25 rfl
  obtain ⟨f_lw_pool, fd_lw_pool, g_lw_pool⟩ := c.glo X G 26 rfl
  obtain ⟨f_lw_draw, fd_lw_draw, g_lw_draw⟩ := c.glo X G 27 rfl
  obtain ⟨f_lw_opened, fd_lw_opened, g_lw_opened⟩ := c.glo X G 28 rfl
  obtain ⟨f_lw_objects, fd_lw_objects, g_lw_objects⟩ := c.glo X G 29 rfl
  obtain ⟨f_lw_classes, fd_lw_classes, g_lw_classes⟩ := c.glo X G 30 rfl
  obtain ⟨f_lw_fields, fd_lw_fields, g_lw_fields⟩ := c.glo X G 31 rfl
  obtain ⟨f_lw_caught, fd_lw_caught, g_lw_caught⟩ := c.glo X G 32 rfl
  obtain ⟨f_lw_law, fd_lw_law, g_lw_law⟩ := c.glo X G 33 rfl
  have e := hfa.symm.trans g_lw_law.m
  cases e
  refine ⟨fd_lw_law, fun s v => ?_, fun base hK hG => ?_⟩
  · obtain ⟨⟨oc, od, kV, doc, pm, an, cdv, ct, osl, rfl, lk, hcd⟩, kp⟩ := g_lw_law.F
    exact .of_eq rfl
  let Z : Cz := ⟨P, w, K, mg, base⟩

  obtain ⟨cf, ce⟩ := ba c.more
  obtain ⟨cx, ce⟩ := ba ce
  obtain ⟨cg, ce⟩ := ba ce
  obtain ⟨cc, ce⟩ := ba ce
  obtain ⟨ck, ce⟩ := ba ce
  obtain ⟨cn, ce⟩ := ba ce
  obtain ⟨cp, ce⟩ := ba ce
  obtain ⟨c0, c1⟩ := ba ce
  have f := fun {x : Str} (hx : x ∈ (["int", "len", "range", "max", "min", "str", "enumerate", "isinstance"] : List Str)) => freeB_ok X G cf hx
  have D : DrT Z := ⟨f (by simp), f (by simp), f (by simp), f (by simp), f (by simp)⟩
  have ex : ∀ e ∈ errs, excB K e.1 e.2 = true := List.all_eq_true.mp cx
  have hall : ∀ e ∈ errs, ExE Z (fun x => ga K x) e.1 e.2 := List.forall_mem_cons.mpr ⟨⟨_, _, _, excB_ok X G (ex _ (by decide)) g_BadArgument_dd_init rfl rfl rfl⟩, List.forall_mem_cons.mpr ⟨⟨_, _, _, excB_ok X G (ex _ (by decide)) g_BadPrice_dd_init rfl rfl rfl⟩, List.forall_mem_cons.mpr ⟨⟨_, _, _, excB_ok X G (ex _ (by decide)) g_BadBook_dd_init rfl rfl rfl⟩, List.forall_mem_cons.mpr ⟨⟨_, _, _, excB_ok X G (ex _ (by decide)) g_BadState_dd_init rfl rfl rfl⟩, List.forall_mem_cons.mpr ⟨⟨_, _, _, excB_ok X G (ex _ (by decide)) g_BadRow_dd_init rfl rfl rfl⟩, List.forall_mem_cons.mpr ⟨⟨_, _, _, excB_ok X G (ex _ (by decide)) g_BadParts_dd_init rfl rfl rfl⟩, List.forall_mem_cons.mpr ⟨⟨_, _, _, excB_ok X G (ex _ (by decide)) g_BadRows_dd_init rfl rfl rfl⟩, List.forall_mem_cons.mpr ⟨⟨_, _, _, excB_ok X G (ex _ (by decide)) g_BadSort_dd_init rfl rfl rfl⟩, List.forall_mem_cons.mpr ⟨⟨_, _, _, excB_ok X G (ex _ (by decide)) g_BadNumber_dd_init rfl rfl rfl⟩, List.forall_mem_cons.mpr ⟨⟨_, _, _, excB_ok X G (ex _ (by decide)) g_BadPlan_dd_init rfl rfl rfl⟩, List.forall_mem_cons.mpr ⟨⟨_, _, _, excB_ok X G (ex _ (by decide)) g_BadWay_dd_init rfl rfl rfl⟩, List.forall_mem_cons.mpr ⟨⟨_, _, _, excB_ok X G (ex _ (by decide)) g_NoNode_dd_init rfl rfl rfl⟩, List.forall_mem_cons.mpr ⟨⟨_, _, _, excB_ok X G (ex _ (by decide)) g_TooLarge_dd_init rfl rfl rfl⟩, List.forall_mem_cons.mpr ⟨⟨_, _, _, excB_ok X G (ex _ (by decide)) g_BadMenu_dd_init rfl rfl rfl⟩, List.forall_mem_cons.mpr ⟨⟨_, _, _, excB_ok X G (ex _ (by decide)) g_BadChange_dd_init rfl rfl rfl⟩, List.forall_mem_cons.mpr ⟨⟨_, _, _, excB_ok X G (ex _ (by decide)) g_BadText_dd_init rfl rfl rfl⟩, List.forall_mem_cons.mpr ⟨⟨_, _, _, excB_ok X G (ex _ (by decide)) g_BadName_dd_init rfl rfl rfl⟩, List.forall_mem_cons.mpr ⟨⟨_, _, _, excB_ok X G (ex _ (by decide)) g_NameTaken_dd_init rfl rfl rfl⟩, List.forall_mem_cons.mpr ⟨⟨_, _, _, excB_ok X G (ex _ (by decide)) g_Dearer_dd_init rfl rfl rfl⟩, List.forall_mem_cons.mpr ⟨⟨_, _, _, excB_ok X G (ex _ (by decide)) g_FailedDeed_dd_init rfl rfl rfl⟩, List.forall_mem_cons.mpr ⟨⟨_, _, _, excB_ok X G (ex _ (by decide)) g_BadCommand_dd_init rfl rfl rfl⟩, List.forall_mem_cons.mpr ⟨⟨_, _, _, excB_ok X G (ex _ (by decide)) g_BadShare_dd_init rfl rfl rfl⟩, List.forall_mem_cons.mpr ⟨⟨_, _, _, excB_ok X G (ex _ (by decide)) g_DividedByNothing_dd_init rfl rfl rfl⟩, List.forall_mem_cons.mpr ⟨⟨_, _, _, excB_ok X G (ex _ (by decide)) g_BadKind_dd_init rfl rfl rfl⟩, List.forall_mem_cons.mpr ⟨⟨_, _, _, excB_ok X G (ex _ (by decide)) g_UnknownName_dd_init rfl rfl rfl⟩, List.forall_mem_nil _⟩⟩⟩⟩⟩⟩⟩⟩⟩⟩⟩⟩⟩⟩⟩⟩⟩⟩⟩⟩⟩⟩⟩⟩⟩
  have hE : ∀ (i : Nat) (x fl : Str), errs[i]? = some (x, fl) → ExE Z (fun x => ga K x) x fl := fun i x fl h => hall (x, fl) (List.mem_of_getElem? h)
  have hG0 : ∀ x ∈ ("PlanError" : Str) :: cls26, mg x = some (.ref (ga K x)) := fun x hx => glo_ok X G (List.all_eq_true.mp cg x hx)
  have hG : ∀ (i : Nat) (x : Str), cls26[i]? = some x → mg x = some (.ref (ga K x)) := fun i x h => hG0 x (List.mem_cons_of_mem _ (List.mem_of_getElem? h))
  have gP := hG0 "PlanError" (List.mem_cons_self ..)
  have hC : ∀ (i : Nat) (x : Str), cls26[i]? = some x → ExcC K (ga K x) := fun i x h => exccB_ok (ba (List.all_eq_true.mp cc x (List.mem_of_getElem? h))).1
  have hP : ∀ (i : Nat) (x : Str), cls26[i]? = some x → kitOne K (.ref (ga K x)) (.ref (ga K "PlanError")) = some true := fun i x h => of_decide_eq_true (ba (List.all_eq_true.mp cc x (List.mem_of_getElem? h))).2
  have hK : ∀ (i j : Nat) (x y : Str), cls26[i]? = some x → cls26[j]? = some y → kitOne K (.ref (ga K x)) (.ref (ga K y)) = some (decide (i = j)) := fun i j x y hx hy => by
    obtain ⟨ex, hi⟩ := clsAt_eq hx
    obtain ⟨ey, hj⟩ := clsAt_eq hy
    have := of_decide_eq_true (List.all_eq_true.mp (List.all_eq_true.mp ck i (List.mem_range.mpr hi)) j (List.mem_range.mpr hj))
    rw [ex, ey] at this
    exact this
  have c_numbers := g_lw_numbers.cal (Z := Z) (ok_numbers g_lw_numbers.F D) (g_lw_numbers.F.binds fun _ _ _ _ _ _ us hl => match us, hl with | [_, _, _], _ => rfl)
  have c_pool := g_lw_pool.cal (Z := Z) (ok_pool g_lw_pool.F D c_numbers) (g_lw_pool.F.binds fun _ _ _ _ _ _ us hl => match us, hl with | [_, _, _], _ => rfl)
  have c_draw := g_lw_draw.cal (Z := Z) (ok_draw g_lw_draw.F D) (g_lw_draw.F.binds fun _ _ _ _ _ _ us hl => match us, hl with | [_, _], _ => rfl)
  have c_opened := g_lw_opened.cal (Z := Z) (ok_opened g_lw_opened.F D c_pool) (g_lw_opened.F.binds fun _ _ _ _ _ _ us hl => match us, hl with | [_, _, _], _ => rfl)
  have c_fields := g_lw_fields.cal (Z := Z) (ok_fields g_lw_fields.F hE) (g_lw_fields.F.binds fun _ _ _ _ _ _ us hl => match us, hl with | [_], _ => rfl)
  have c_objects := g_lw_objects.cal (Z := Z) (ok_objects g_lw_objects.F hE c0 (hG 19 _ rfl) c1) (g_lw_objects.F.binds fun _ _ _ _ _ _ us hl => match us, hl with | [_], _ => rfl)
  have c_classes := g_lw_classes.cal (Z := Z) (ok_classes g_lw_classes.F (f (by simp)) hG hC hK) (g_lw_classes.F.binds fun _ _ _ _ _ _ us hl => match us, hl with | [_], _ => rfl)
  have c_caught := g_lw_caught.cal (Z := Z) (ok_caught (CC := fun x => ga K x) g_lw_caught.F (hE 1 _ _ rfl) (hG 8 _ rfl) gP (of_decide_eq_true cn) (of_decide_eq_true cp)) (g_lw_caught.F.binds fun _ _ _ _ _ _ us hl => match us, hl with | [_], _ => rfl)
  exact ok_law g_lw_law.F D (f (by simp)) (f (by simp)) (f (by simp)) gP hC hP c_opened c_draw c_fields c_caught c_objects c_classes
end Ps
open PySem PySem.W PySem.Calls PyProof.Rows
theorem PySem.Challenge.cw_planswitches_k43_classes_of_errors_holds : PySem.Challenge.rw_planswitches_k43_classes_of_errors.Holds := by
  w_on; o_law
  refine HandSHeadRun.head_any (r := OpenLaw.row PySem.Challenge.rw_planswitches_k43_classes_of_errors) (q := view (OpenLaw.row PySem.Challenge.rw_planswitches_k43_classes_of_errors).prog [37]) (H := Ps.hk) (ob := Ps.ob) (M := 20000) (loose := Ps.loose) (d := HandSHeadRun.topDef (OpenLaw.row PySem.Challenge.rw_planswitches_k43_classes_of_errors).prog 37) (kwd := []) Ps.ob_eq
    (by kernel_rfl) (fun s => by kernel_rfl) Ps.run (by kernel_rfl) (by kernel_rfl) (by kernel_rfl) (by rfl) (by first | assumption | decide +kernel) (by decide +kernel) ⟨rfl, rfl, rfl, rfl, rfl, by decide +kernel⟩ ?hw ?hc
  case hw => w_witness2
  case hc =>
    refine L2.walk_ofE (l := PySem.Challenge.rw_planswitches_k43_classes_of_errors) (n := 63) (k := 9) (x := "_law_script") (CX := L2.CX0) rfl (by decide) (by kernel_rfl) ⟨rfl, by decide, by decide⟩ ?F (fun _ _ _ _ z => z)
    intro w mg fa h Y G hmg0
    obtain ⟨K, KX, c⟩ := Y
    have hmg : mg ("law" : PySem.Str) = some (.ref fa) := by
      have e : (HandSHeadRun.topDef (OpenLaw.row PySem.Challenge.rw_planswitches_k43_classes_of_errors).prog 37).name = ("law" : PySem.Str) := by kernel_rfl
      rw [← e]
      exact hmg0
    obtain ⟨fd, hb, hF⟩ := Ps.facts (P := (PySem.Challenge.rw_planswitches_k43_classes_of_errors).prog) (w := w) KX G hmg c
    exact ⟨K, fd, Ps.spLaw K, KX, hb, fun H a ns hl _ hS => ⟨a, ns, rfl, hS, hl, fun _ => rfl⟩, hF⟩



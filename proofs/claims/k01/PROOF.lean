import PyProof.Rows.All
import Wide.All
import OpenK.AllK
import Wide.FinOn
import HandS.ForMost
import HandS.IsInst
import HandS.Property
import HandS.Wide
import HandS.EndBits
import HandS.OwnEq
import HandS.Defaults
import HandS.Codes
import KE.KStateDown
import HandS.Head0
import HandS.Head1
import HandS.Head2
import HandS.HeadEnd
import HandS.HeadHook1
import HandS.HeadHook2
import PySem.Challenge.RW_planswitches_k01_shares_reckoned
set_option Elab.async false
set_option linter.all false
set_option maxRecDepth 100000
/-! places and scopes of the defs of planswitches_k01_shares_reckoned -/
namespace Ps
open PySem L2
def topS (i : Nat) : Stmt := PySem.Challenge.pw_planswitches_k01_shares_reckoned.main.body.getD i (.Pass ⟨0, 0, 0, 0⟩)
abbrev s_BadShare_dd_init : Stmt := inClass (topS 3) 0
theorem sc_BadShare_dd_init : FnScope ["self", "value"] ["self", "value"] (defScope s_BadShare_dd_init) := ⟨rfl, rfl, rfl, by decide +kernel, rfl, by decide +kernel, by decide +kernel⟩
abbrev s_DividedByNothing_dd_init : Stmt := inClass (topS 4) 0
theorem sc_DividedByNothing_dd_init : FnScope ["self", "value"] ["self", "value"] (defScope s_DividedByNothing_dd_init) := ⟨rfl, rfl, rfl, by decide +kernel, rfl, by decide +kernel, by decide +kernel⟩
abbrev s_is_integer : Stmt := topS 6
theorem sc_is_integer : FnScope ["value"] ["value"] (defScope s_is_integer) := ⟨rfl, rfl, rfl, by decide +kernel, rfl, by decide +kernel, by decide +kernel⟩
abbrev s_common : Stmt := topS 7
theorem sc_common : FnScope ["one", "other"] ["one", "other"] (defScope s_common) := ⟨rfl, rfl, rfl, by decide +kernel, rfl, by decide +kernel, by decide +kernel⟩
abbrev s_share_of_number : Stmt := topS 8
theorem sc_share_of_number : FnScope ["value"] ["value"] (defScope s_share_of_number) := ⟨rfl, rfl, rfl, by decide +kernel, rfl, by decide +kernel, by decide +kernel⟩
abbrev s_is_number : Stmt := topS 9
theorem sc_is_number : FnScope ["value"] ["value"] (defScope s_is_number) := ⟨rfl, rfl, rfl, by decide +kernel, rfl, by decide +kernel, by decide +kernel⟩
abbrev s_Share_dd_init : Stmt := inClass (topS 10) 0
theorem sc_Share_dd_init : FnScope ["self", "top", "under", "divisor"] ["self", "top", "under"] (defScope s_Share_dd_init) := ⟨rfl, rfl, rfl, by decide +kernel, rfl, by decide +kernel, by decide +kernel⟩
abbrev s_Share_top : Stmt := inClass (topS 10) 1
theorem sc_Share_top : FnScope ["self"] ["self"] (defScope s_Share_top) := ⟨rfl, rfl, rfl, by decide +kernel, rfl, by decide +kernel, by decide +kernel⟩
abbrev s_Share_under : Stmt := inClass (topS 10) 2
theorem sc_Share_under : FnScope ["self"] ["self"] (defScope s_Share_under) := ⟨rfl, rfl, rfl, by decide +kernel, rfl, by decide +kernel, by decide +kernel⟩
abbrev s_Share_dd_add : Stmt := inClass (topS 10) 3
theorem sc_Share_dd_add : FnScope ["self", "other"] ["self", "other"] (defScope s_Share_dd_add) := ⟨rfl, rfl, rfl, by decide +kernel, rfl, by decide +kernel, by decide +kernel⟩
abbrev s_Share_dd_radd : Stmt := inClass (topS 10) 4
theorem sc_Share_dd_radd : FnScope ["self", "other"] ["self", "other"] (defScope s_Share_dd_radd) := ⟨rfl, rfl, rfl, by decide +kernel, rfl, by decide +kernel, by decide +kernel⟩
abbrev s_Share_dd_sub : Stmt := inClass (topS 10) 5
theorem sc_Share_dd_sub : FnScope ["self", "other"] ["self", "other"] (defScope s_Share_dd_sub) := ⟨rfl, rfl, rfl, by decide +kernel, rfl, by decide +kernel, by decide +kernel⟩
abbrev s_Share_dd_rsub : Stmt := inClass (topS 10) 6
theorem sc_Share_dd_rsub : FnScope ["self", "other"] ["self", "other"] (defScope s_Share_dd_rsub) := ⟨rfl, rfl, rfl, by decide +kernel, rfl, by decide +kernel, by decide +kernel⟩
abbrev s_Share_dd_mul : Stmt := inClass (topS 10) 7
theorem sc_Share_dd_mul : FnScope ["self", "other"] ["self", "other"] (defScope s_Share_dd_mul) := ⟨rfl, rfl, rfl, by decide +kernel, rfl, by decide +kernel, by decide +kernel⟩
abbrev s_Share_dd_rmul : Stmt := inClass (topS 10) 8
theorem sc_Share_dd_rmul : FnScope ["self", "other"] ["self", "other"] (defScope s_Share_dd_rmul) := ⟨rfl, rfl, rfl, by decide +kernel, rfl, by decide +kernel, by decide +kernel⟩
abbrev s_Share_by : Stmt := inClass (topS 10) 9
theorem sc_Share_by : FnScope ["self", "other"] ["self", "other"] (defScope s_Share_by) := ⟨rfl, rfl, rfl, by decide +kernel, rfl, by decide +kernel, by decide +kernel⟩
abbrev s_Share_dd_neg : Stmt := inClass (topS 10) 10
theorem sc_Share_dd_neg : FnScope ["self"] ["self"] (defScope s_Share_dd_neg) := ⟨rfl, rfl, rfl, by decide +kernel, rfl, by decide +kernel, by decide +kernel⟩
abbrev s_Share_dd_abs : Stmt := inClass (topS 10) 11
theorem sc_Share_dd_abs : FnScope ["self"] ["self"] (defScope s_Share_dd_abs) := ⟨rfl, rfl, rfl, by decide +kernel, rfl, by decide +kernel, by decide +kernel⟩
abbrev s_Share_dd_bool : Stmt := inClass (topS 10) 12
theorem sc_Share_dd_bool : FnScope ["self"] ["self"] (defScope s_Share_dd_bool) := ⟨rfl, rfl, rfl, by decide +kernel, rfl, by decide +kernel, by decide +kernel⟩
abbrev s_Share_minus : Stmt := inClass (topS 10) 13
theorem sc_Share_minus : FnScope ["self", "other"] ["self", "other"] (defScope s_Share_minus) := ⟨rfl, rfl, rfl, by decide +kernel, rfl, by decide +kernel, by decide +kernel⟩
abbrev s_Share_dd_lt : Stmt := inClass (topS 10) 14
theorem sc_Share_dd_lt : FnScope ["self", "other"] ["self", "other"] (defScope s_Share_dd_lt) := ⟨rfl, rfl, rfl, by decide +kernel, rfl, by decide +kernel, by decide +kernel⟩
abbrev s_Share_dd_le : Stmt := inClass (topS 10) 15
theorem sc_Share_dd_le : FnScope ["self", "other"] ["self", "other"] (defScope s_Share_dd_le) := ⟨rfl, rfl, rfl, by decide +kernel, rfl, by decide +kernel, by decide +kernel⟩
abbrev s_Share_dd_gt : Stmt := inClass (topS 10) 16
theorem sc_Share_dd_gt : FnScope ["self", "other"] ["self", "other"] (defScope s_Share_dd_gt) := ⟨rfl, rfl, rfl, by decide +kernel, rfl, by decide +kernel, by decide +kernel⟩
abbrev s_Share_dd_ge : Stmt := inClass (topS 10) 17
theorem sc_Share_dd_ge : FnScope ["self", "other"] ["self", "other"] (defScope s_Share_dd_ge) := ⟨rfl, rfl, rfl, by decide +kernel, rfl, by decide +kernel, by decide +kernel⟩
abbrev s_Share_dd_eq : Stmt := inClass (topS 10) 18
theorem sc_Share_dd_eq : FnScope ["self", "other"] ["self", "other"] (defScope s_Share_dd_eq) := ⟨rfl, rfl, rfl, by decide +kernel, rfl, by decide +kernel, by decide +kernel⟩
abbrev s_Share_dd_str : Stmt := inClass (topS 10) 19
theorem sc_Share_dd_str : FnScope ["self"] ["self"] (defScope s_Share_dd_str) := ⟨rfl, rfl, rfl, by decide +kernel, rfl, by decide +kernel, by decide +kernel⟩
abbrev s_Share_dd_repr : Stmt := inClass (topS 10) 20
theorem sc_Share_dd_repr : FnScope ["self"] ["self"] (defScope s_Share_dd_repr) := ⟨rfl, rfl, rfl, by decide +kernel, rfl, by decide +kernel, by decide +kernel⟩
abbrev s_Share_floor : Stmt := inClass (topS 10) 21
theorem sc_Share_floor : FnScope ["self"] ["self"] (defScope s_Share_floor) := ⟨rfl, rfl, rfl, by decide +kernel, rfl, by decide +kernel, by decide +kernel⟩
abbrev s_lw_numbers : Stmt := topS 12
theorem sc_lw_numbers : FnScope ["_law_cell", "_law_salt", "_law_sizes", "_law_whole", "_law_left", "_law_result", "_law_k", "_law_one"] ["_law_cell", "_law_salt", "_law_sizes"] (defScope s_lw_numbers) := ⟨rfl, rfl, rfl, by decide +kernel, rfl, by decide +kernel, by decide +kernel⟩
abbrev s_lw_pool : Stmt := topS 13
theorem sc_lw_pool : FnScope ["_law_cell", "_law_salt", "_law_many"] ["_law_cell", "_law_salt", "_law_many"] (defScope s_lw_pool) := ⟨rfl, rfl, rfl, by decide +kernel, rfl, by decide +kernel, by decide +kernel⟩
abbrev s_lw_draw : Stmt := topS 14
theorem sc_lw_draw : FnScope ["_law_pool_here", "_law_many", "_law_at"] ["_law_pool_here", "_law_many"] (defScope s_lw_draw) := ⟨rfl, rfl, rfl, by decide +kernel, rfl, by decide +kernel, by decide +kernel⟩
abbrev s_lw_opened : Stmt := topS 15
theorem sc_lw_opened : FnScope ["_law_script", "_law_k", "_law_many", "_law_cell"] ["_law_script", "_law_k", "_law_many"] (defScope s_lw_opened) := ⟨rfl, rfl, rfl, by decide +kernel, rfl, by decide +kernel, by decide +kernel⟩
abbrev s_lw_lowest : Stmt := topS 16
theorem sc_lw_lowest : FnScope ["_law_top", "_law_under", "_law_one", "_law_other"] ["_law_top", "_law_under"] (defScope s_lw_lowest) := ⟨rfl, rfl, rfl, by decide +kernel, rfl, by decide +kernel, by decide +kernel⟩
abbrev s_lw_parts : Stmt := topS 17
theorem sc_lw_parts : FnScope ["_law_share"] ["_law_share"] (defScope s_lw_parts) := ⟨rfl, rfl, rfl, by decide +kernel, rfl, by decide +kernel, by decide +kernel⟩
abbrev s_lw_due : Stmt := topS 18
theorem sc_lw_due : FnScope ["_law_way", "_law_one", "_law_other"] ["_law_way", "_law_one", "_law_other"] (defScope s_lw_due) := ⟨rfl, rfl, rfl, by decide +kernel, rfl, by decide +kernel, by decide +kernel⟩
abbrev s_lw_done : Stmt := topS 19
theorem sc_lw_done : FnScope ["_law_way", "_law_one", "_law_other"] ["_law_way", "_law_one", "_law_other"] (defScope s_lw_done) := ⟨rfl, rfl, rfl, by decide +kernel, rfl, by decide +kernel, by decide +kernel⟩
abbrev s_lw_right : Stmt := topS 20
theorem sc_lw_right : FnScope ["_law_one", "_law_other", "_law_more", "_law_first", "_law_second", "_law_way"] ["_law_one", "_law_other", "_law_more"] (defScope s_lw_right) := ⟨rfl, rfl, rfl, by decide +kernel, rfl, by decide +kernel, by decide +kernel⟩
abbrev s_lw_law : Stmt := topS 21
theorem sc_lw_law : FnScope ["_law_script", "_law_k", "_law_pool_here", "_law_tops", "_law_turn", "_law_unders", "_law_more"] ["_law_script"] (defScope s_lw_law) := ⟨rfl, rfl, rfl, by decide +kernel, rfl, by decide +kernel, by decide +kernel⟩
end Ps

set_option maxHeartbeats 4000000
/-! Own operators over the hand layer: the operand on the left is an own instance; or an int on the left and an own instance on the right. -/
namespace Ps
open PySem PySem.Spec PyProof.Rows PySem.W L2

section
variable {prog : Program} {w : World} {A : Around} {E : Value → Shared → Prop} {s : Shared} {K : Frag} {x C L f f' : Addr} {h₀ : Heap} {m : Str → Option Value} {ox : Obj} {od : Option Obj}

theorem asInt_inst {M : Model} {Q : Option Int → Shared → Prop} {dx : Addr} (hx : s.heap.get? x = some (instObj C dx)) (h : Q none s) : wpAny M A (asInt? (.ref x)) Q E s := by
  unfold asInt?
  exact wpAny_bind (wpAny_load hx (wpAny_pure h))

theorem dec_add {t : Tok} {i : Int} {dx : Addr} {Q : Value → Shared → Prop} (hx : s.heap.get? x = some (instObj C dx)) (h : Q .notImplemented s) :
    wpAny (model prog w) A (call (.builtin "int.__add__") [.int i t, .ref x]) Q E s := by
  refine GQ.call_here F.slot_int_add (typeIs_int s i t) F.entry_int_add (F.args_int_add_2 _ _) ?_
  obtain ⟨hp, g, d, tk, os⟩ := s
  wp_walk using asInt_inst hx
  exact h
theorem dec_sub {t : Tok} {i : Int} {dx : Addr} {Q : Value → Shared → Prop} (hx : s.heap.get? x = some (instObj C dx)) (h : Q .notImplemented s) :
    wpAny (model prog w) A (call (.builtin "int.__sub__") [.int i t, .ref x]) Q E s := by
  refine GQ.call_here F.slot_int_sub (typeIs_int s i t) F.entry_int_sub (F.args_int_sub_2 _ _) ?_
  obtain ⟨hp, g, d, tk, os⟩ := s
  wp_walk using asInt_inst hx
  exact h
theorem dec_mul {t : Tok} {i : Int} {dx : Addr} {Q : Value → Shared → Prop} (hx : s.heap.get? x = some (instObj C dx)) (h : Q .notImplemented s) :
    wpAny (model prog w) A (call (.builtin "int.__mul__") [.int i t, .ref x]) Q E s := by
  refine GQ.call_here F.slot_int_mul (typeIs_int s i t) F.entry_int_mul (F.args_int_mul_2 _ _) ?_
  obtain ⟨hp, g, d, tk, os⟩ := s
  wp_walk using asInt_inst hx
  exact h
theorem dec_lt {t : Tok} {i : Int} {dx : Addr} {Q : Value → Shared → Prop} (hx : s.heap.get? x = some (instObj C dx)) (h : Q .notImplemented s) :
    wpAny (model prog w) A (call (.builtin "int.__lt__") [.int i t, .ref x]) Q E s := by
  refine GQ.call_here F.slot_int_lt (typeIs_int s i t) F.entry_int_lt (F.args_int_lt_2 _ _) ?_
  obtain ⟨hp, g, d, tk, os⟩ := s
  wp_walk using asInt_inst hx
  exact h
theorem dec_le {t : Tok} {i : Int} {dx : Addr} {Q : Value → Shared → Prop} (hx : s.heap.get? x = some (instObj C dx)) (h : Q .notImplemented s) :
    wpAny (model prog w) A (call (.builtin "int.__le__") [.int i t, .ref x]) Q E s := by
  refine GQ.call_here F.slot_int_le (typeIs_int s i t) F.entry_int_le (F.args_int_le_2 _ _) ?_
  obtain ⟨hp, g, d, tk, os⟩ := s
  wp_walk using asInt_inst hx
  exact h
theorem dec_gt {t : Tok} {i : Int} {dx : Addr} {Q : Value → Shared → Prop} (hx : s.heap.get? x = some (instObj C dx)) (h : Q .notImplemented s) :
    wpAny (model prog w) A (call (.builtin "int.__gt__") [.int i t, .ref x]) Q E s := by
  refine GQ.call_here F.slot_int_gt (typeIs_int s i t) F.entry_int_gt (F.args_int_gt_2 _ _) ?_
  obtain ⟨hp, g, d, tk, os⟩ := s
  wp_walk using asInt_inst hx
  exact h
theorem dec_ge {t : Tok} {i : Int} {dx : Addr} {Q : Value → Shared → Prop} (hx : s.heap.get? x = some (instObj C dx)) (h : Q .notImplemented s) :
    wpAny (model prog w) A (call (.builtin "int.__ge__") [.int i t, .ref x]) Q E s := by
  refine GQ.call_here F.slot_int_ge (typeIs_int s i t) F.entry_int_ge (F.args_int_ge_2 _ _) ?_
  obtain ⟨hp, g, d, tk, os⟩ := s
  wp_walk using asInt_inst hx
  exact h
theorem dec_eq {t : Tok} {i : Int} {dx : Addr} {Q : Value → Shared → Prop} (hx : s.heap.get? x = some (instObj C dx)) (h : Q .notImplemented s) :
    wpAny (model prog w) A (call (.builtin "int.__eq__") [.int i t, .ref x]) Q E s := by
  refine GQ.call_here F.slot_int_eq (typeIs_int s i t) F.entry_int_eq (F.args_int_eq_2 _ _) ?_
  obtain ⟨hp, g, d, tk, os⟩ := s
  wp_walk using asInt_inst hx
  exact h
theorem dec_ne {t : Tok} {i : Int} {dx : Addr} {Q : Value → Shared → Prop} (hx : s.heap.get? x = some (instObj C dx)) (h : Q .notImplemented s) :
    wpAny (model prog w) A (call (.builtin "int.__ne__") [.int i t, .ref x]) Q E s := by
  refine GQ.call_here F.slot_int_ne (typeIs_int s i t) F.entry_int_ne (F.args_int_ne_2 _ _) ?_
  obtain ⟨hp, g, d, tk, os⟩ := s
  wp_walk using asInt_inst hx
  exact h

/-- an int on the left, an own instance on the right: the reflected method -/
theorem binop_R {op : Operator} {t : Tok} {i : Int} {id : String} {Q : Value → Shared → Prop} (X : K.In s.heap) (I : InstAt s.heap x ox C od) (hc : selfFirst K C = true)
    (hs : findIn K (.ref C) (PySem.dunder op.info.2) = some (some (.ref f'))) (hr : findIn K (.ref C) (dunderR op.info.2) = some (some (.ref f))) (hf : isFn K (.ref f) = true)
    (hsub : subIn K (.ref C) (.type "int") = some false) (hfl : fillsNumberSlot (.type "int") op.info.2 = pure true) (sl : Slot "int" (PySem.dunder op.info.2) id)
    (hd : ∀ Q : Value → Shared → Prop, Q .notImplemented s → wpAny (model prog w) A (call (.builtin id) [.int i t, .ref x]) Q E s)
    (h : wpAny (model prog w) A (call (.ref f) [.ref x, .int i t]) (PySem.W.CmpBack Q) E s) : wpAny (model prog w) A (binaryOp op (.int i t) (.ref x)) Q E s := by
  obtain ⟨cd, rest, hcd, hm⟩ := ksp_first hc
  rcases hi : op.info with ⟨sym, nm'⟩
  rw [hi] at hs hr hfl sl
  dsimp only at hs hr hfl sl
  have one := ksp_try X I hr hf h
  obtain ⟨hh, g, d, tt, os⟩ := s
  have L1 : Looks (model prog w) hh (typeOf (.ref x)) (.ref C) := I.type
  have L2 : Looks (model prog w) hh (typeOf (.int i t)) (.type "int") := Looks.of_pure rfl
  have L3 : Looks (model prog w) hh (fillsNumberSlot (.ref C) nm') true := fills_K X hcd hm hs
  have L4 : Looks (model prog w) hh (fillsNumberSlot (.type "int") nm') true := Looks.of_pure hfl
  have L5 : Looks (model prog w) hh (isSubtype (.ref C) (.type "int")) false := looks_subIn X hsub
  have L7 : Looks (model prog w) hh (numberSlotInPython (.type "int") nm') false := Looks.of_pure rfl
  have dec : wpAny (model prog w) A (tryMethod (.int i t) (PySem.dunder nm') (.ref x)) (fun r s' => r = none ∧ s' = ⟨hh, g, d, tt, os⟩) E ⟨hh, g, d, tt, os⟩ :=
    wpAny_tryMethod_declines (typeIs_int _ i t) sl (hd _ ⟨rfl, rfl, rfl⟩)
  have hne : (Value.type "int" == Value.ref C) = false := Bool.eq_false_iff.mpr fun q => by cases beq_iff_eq.mp q
  simp only [binaryOp, hi]
  refine wpAny_holding (wpAny_bind ?_)
  unfold binaryOp1
  refine wpAny_bind (L2.at (wpAny_bind (L1.at (wpAny_bind (L4.at ?_)))))
  simp only [hne, Bool.false_eq_true, if_false]
  ksp_lk
  refine wpAny_mono dec (fun r s' hr' => ?_) fun _ _ e => e
  obtain ⟨rfl, rfl⟩ := hr'
  ksp_lk
  refine wpAny_mono one (fun r s' hr' => ?_) fun _ _ e => e
  obtain ⟨v, rfl, hq⟩ := hr'
  ksp_lk
  exact hq
end

/-! ### over the layer -/
section
variable {X : Cx} {CX : CXT} {k : Nat} {f C f' : Addr} {fd : FuncData} {ps : List Str} {sp : Sp} {E : XK}

theorem cmpBack {pins : List (Addr × Obj)} {σ : L2.St} {Q : VK} {u : Value} {s : Shared} (h : EP X pins σ Q u s) : PySem.W.CmpBack (EP X pins σ Q) u s := by
  obtain ⟨v, H', I, r, q⟩ := id h
  cases v with
  | non => cases (show u = Value.none from r); exact h
  | bl b => cases (show u = Value.bool b from r); exact h
  | int i => obtain ⟨t, e⟩ := (show ∃ t, u = Value.int i t from r); cases e; exact h
  | str x => obtain ⟨t, e⟩ := (show ∃ t, u = Value.str x t from r); cases e; exact h
  | byt b => obtain ⟨t, e⟩ := (show ∃ t, u = Value.bytes b t from r); cases e; exact h
  | flt b => obtain ⟨t, e⟩ := (show ∃ t, u = Value.float b t from r); cases e; exact h
  | ref a => cases (show u = Value.ref a from r); exact h
  | ty n => cases (show u = Value.type n from r); exact h

/-- the class at C has the method nm at f -/
structure OwnOp (K : Frag) (C f : Addr) (nm : Str) : Prop where
  sf : selfFirst K C = true
  fn : findIn K (.ref C) nm = some (some (.ref f))
  isf : isFn K (.ref f) = true

/-- what is said of an own instance -/
def InsC (C : Addr) (H : Hp) (v : V) : Prop := ∃ a dx fs, v = .ref a ∧ H a = some (.ins C dx fs)
def rOwn (C : Addr) (sp : Sp) (E : XK) : R2 := fun x y H Q => InsC C H x ∧ InsC C H y ∧ sp [x, y] H Q E
def rOwnI (C : Addr) (sp : Sp) (E : XK) : R2 := fun x y H Q => InsC C H x ∧ (∃ i, y = .int i) ∧ sp [x, y] H Q E
def rRefI (C : Addr) (sp : Sp) (E : XK) : R2 := fun x y H Q => (∃ i, x = .int i) ∧ InsC C H y ∧ sp [y, x] H Q E

theorem op_own {op : Operator} (O : OwnOp X.K C f (PySem.dunder op.info.2)) (G : FnOk X.prog X.w X.K X.mg X.base CX k f fd ps sp) (hr : Room k X.A) (hb : Binds X.K fd ps []) (hx : Passes CX X E) : OpR X (binaryOp op) (rOwn C sp E) := by
  intro pins s σ H x y v u Q I rx ry h
  obtain ⟨⟨a, dx, fs, rfl, ha⟩, ⟨b, dy, gs, rfl, hb'⟩, h⟩ := h
  cases (show v = Value.ref a from rx)
  cases (show u = Value.ref b from ry)
  obtain ⟨mA, J, _⟩ := ins_get I.hok ha
  obtain ⟨mB, J', _⟩ := ins_get I.hok hb'
  obtain ⟨od, J, _⟩ := J.look
  obtain ⟨od', J', _⟩ := J'.look
  obtain ⟨m, hF⟩ := I.fr
  refine binop_K hF I.ok.mod.kin J J'.type O.sf O.fn O.isf ?_
  exact wpAny_mono (run_fn (us := [.ref a, .ref b]) (vs := [.ref a, .ref b]) (dvs := []) G hr hb .nil hx I (.cons rfl (.cons rfl .nil)) h) (fun _ _ z => cmpBack z) fun _ _ z => z

theorem op_ownI {op : Operator} {fo ro rc : Option Value} (O : OwnOp X.K C f (PySem.dunder op.info.2)) (hrc : findIn X.K (.ref C) (dunderR op.info.2) = some rc) (hp : rc = none ∨ ∃ g : Addr, rc = some (.ref g))
    (h1 : findIn X.K (.type "int") (PySem.dunder op.info.2) = some fo) (h2 : findIn X.K (.type "int") (dunderR op.info.2) = some ro) (hsub : subIn X.K (.type "int") (.ref C) = some false)
    (G : FnOk X.prog X.w X.K X.mg X.base CX k f fd ps sp) (hr : Room k X.A) (hb : Binds X.K fd ps []) (hx : Passes CX X E) : OpR X (binaryOp op) (rOwnI C sp E) := by
  intro pins s σ H x y v u Q I rx ry h
  obtain ⟨⟨a, dx, fs, rfl, ha⟩, ⟨i, rfl⟩, h⟩ := h
  cases (show v = Value.ref a from rx)
  obtain ⟨t, e⟩ := (show ∃ t, u = Value.int i t from ry)
  cases e
  obtain ⟨mA, J, _⟩ := ins_get I.hok ha
  obtain ⟨od, J, _⟩ := J.look
  obtain ⟨m, hF⟩ := I.fr
  refine ksp_binT hF I.ok.mod.kin J (T := "int") rfl O.sf O.fn O.isf hrc hp h1 h2 hsub ?_
  exact wpAny_mono (run_fn (us := [.ref a, .int i t]) (vs := [.ref a, .int i]) (dvs := []) G hr hb .nil hx I (.cons rfl (.cons ⟨t, rfl⟩ .nil)) h) (fun _ _ z => cmpBack z) fun _ _ z => z

theorem op_refI {op : Operator} {id : String} (O : OwnOp X.K C f (dunderR op.info.2)) (hs : findIn X.K (.ref C) (PySem.dunder op.info.2) = some (some (.ref f'))) (hsub : subIn X.K (.ref C) (.type "int") = some false)
    (hfl : fillsNumberSlot (.type "int") op.info.2 = pure true) (sl : Slot "int" (PySem.dunder op.info.2) id)
    (hd : ∀ {s : Shared} {x C dx : Addr} {t : Tok} {i : Int} {Q : Value → Shared → Prop}, s.heap.get? x = some (instObj C dx) → Q .notImplemented s → wpAny (model X.prog X.w) X.A (call (.builtin id) [.int i t, .ref x]) Q X.xe s)
    (G : FnOk X.prog X.w X.K X.mg X.base CX k f fd ps sp) (hr : Room k X.A) (hb : Binds X.K fd ps []) (hx : Passes CX X E) : OpR X (binaryOp op) (rRefI C sp E) := by
  intro pins s σ H x y v u Q I rx ry h
  obtain ⟨⟨i, rfl⟩, ⟨a, dx, fs, rfl, ha⟩, h⟩ := h
  cases (show u = Value.ref a from ry)
  obtain ⟨t, e⟩ := (show ∃ t, v = Value.int i t from rx)
  cases e
  obtain ⟨mA, J0, _⟩ := ins_get I.hok ha
  obtain ⟨_, _, _, hget, _⟩ := (show ObjOk X.prog X.w H s.heap a (.ins C dx fs) from I.hok a _ ha)
  obtain ⟨od, J, _⟩ := J0.look
  refine binop_R I.kIn J O.sf hs O.fn O.isf hsub hfl sl (fun Q q => hd hget q) ?_
  exact wpAny_mono (run_fn (us := [.ref a, .int i t]) (vs := [.ref a, .int i]) (dvs := []) G hr hb .nil hx I (.cons rfl (.cons ⟨t, rfl⟩ .nil)) h) (fun _ _ z => cmpBack z) fun _ _ z => z

/-- -x, abs(x) -/
def rUOwn (C : Addr) (sp : Sp) (E : XK) : V → Hp → VK → Prop := fun x H Q => InsC C H x ∧ sp [x] H Q E
theorem un_own (O : OwnOp X.K C f "__neg__") (G : FnOk X.prog X.w X.K X.mg X.base CX k f fd ps sp) (hr : Room k X.A) (hb : Binds X.K fd ps []) (hx : Passes CX X E) : UnR X (unaryOp .USub) (rUOwn C sp E) := by
  intro pins s σ H x v Q I rx h
  obtain ⟨⟨a, dx, fs, rfl, ha⟩, h⟩ := h
  cases (show v = Value.ref a from rx)
  obtain ⟨mA, J, _⟩ := ins_get I.hok ha
  obtain ⟨od, J, _⟩ := J.look
  obtain ⟨m, hF⟩ := I.fr
  exact ksp_neg hF I.ok.mod.kin J O.fn O.isf (run_fn (us := [.ref a]) (vs := [.ref a]) (dvs := []) G hr hb .nil hx I (.cons rfl .nil) h)

/-- the callee runs, called out of a builtin -/
theorem run_fn1 {pins : List (Addr × Obj)} {σ : L2.St} {H : Hp} {s : Shared} {Q : VK} {us : List Value} {vs : List V} (F : FnOk X.prog X.w X.K X.mg X.base CX k f fd ps sp) (hr : Room (k + 1) X.A) (hb : Binds X.K fd ps []) (hx : Passes CX X E)
    (I : L2.Inv X pins σ H s) (r : Vals vs us) (h : sp vs H Q E) : wpAny (model X.prog X.w) X.A.in1 (call (.ref f) us) (EP X pins σ Q) X.xe s := by
  have hl : (us ++ []).length = ps.length := by rw [List.append_nil, ← r.length]; exact F.len _ _ _ _ h
  have hb' := hb s us I.kIn hl
  rw [List.append_nil] at hb'
  refine wpAny_call (codeAny_mono (F.run X.A.in1 X.stack s H ⟨us, []⟩ us vs Q E hr.in1 I.env0.in1 hb' r h) fun r s' hq => ?_)
  cases r with
  | error e => exact hx pins σ H s e s' I hq
  | ok fl =>
    cases fl with
    | ret u => exact I.after hq
    | next => exact False.elim hq
    | brk => exact False.elim hq
    | cont => exact False.elim hq
theorem call_absO (O : OwnOp X.K C f "__abs__") (G : FnOk X.prog X.w X.K X.mg X.base CX k f fd ps sp) (hr : Room (k + 1) X.A) (hb : Binds X.K fd ps []) (hx : Passes CX X E) : CallR X (.builtin "abs") (fun xs H Q => ∃ x, xs = [x] ∧ InsC C H x ∧ sp [x] H Q E) := by
  intro pins s σ H xs us Q I r h
  obtain ⟨x, rfl, ⟨a, dx, fs, rfl, ha⟩, h⟩ := h
  obtain ⟨u, rfl, r1⟩ := vals1 r
  cases (show u = Value.ref a from r1)
  obtain ⟨mA, J, _⟩ := ins_get I.hok ha
  obtain ⟨od, J, _⟩ := J.look
  refine PySem.Calls.call_function_entry kind_abs plain_abs entry_abs (args_abs _) ?_
  unfold Builtin.«abs»
  refine wpAny_bind (m := oneArg "abs" _) (wpAny_pure ?_)
  refine wpAny_bind (special_fn I.kIn J O.fn (beq_iff_eq.mp O.isf) (wpAny_mono (run_fn1 (us := [.ref a]) (vs := [.ref a]) G hr hb hx I (.cons rfl .nil) h) (fun v s' z => ?_) fun _ _ z => z))
  exact wpAny_pure ⟨_, rfl, z⟩
end
end Ps

/-! Fractions in lowest terms, in plain Lean. -/
namespace Ps
def lowG (t u : Int) : Int := if u < 0 then -(Int.gcd t u : Int) else (Int.gcd t u : Int)
/-- what Share keeps of a top and an under -/
def low (t u : Int) : Int × Int := (t.fdiv (lowG t u), u.fdiv (lowG t u))
theorem gcd_pos {t u : Int} (hu : u ≠ 0) : 0 < Int.gcd t u := Int.gcd_pos_of_ne_zero_right t hu
theorem lowG_ne {t u : Int} (hu : u ≠ 0) : lowG t u ≠ 0 := by
  have h := gcd_pos (t := t) hu
  unfold lowG
  split <;> omega
theorem lowG_abs (t u : Int) : (lowG t u).natAbs = Int.gcd t u := by
  unfold lowG
  split <;> omega
theorem lowG_dvd_left (t u : Int) : lowG t u ∣ t := by
  have h : (Int.gcd t u : Int) ∣ t := Int.gcd_dvd_left ..
  unfold lowG
  split
  · exact Int.neg_dvd.mpr h
  · exact h
theorem lowG_dvd_right (t u : Int) : lowG t u ∣ u := by
  have h : (Int.gcd t u : Int) ∣ u := Int.gcd_dvd_right ..
  unfold lowG
  split
  · exact Int.neg_dvd.mpr h
  · exact h
theorem low_fst {t u : Int} (hu : u ≠ 0) : (low t u).1 * lowG t u = t := by
  obtain ⟨c, hc⟩ := lowG_dvd_left t u
  show t.fdiv (lowG t u) * lowG t u = t
  have : t.fdiv (lowG t u) = c := by
    rw [Int.fdiv_eq_of_eq_mul_right (lowG_ne hu) hc]
  rw [this, Int.mul_comm, ← hc]
theorem low_snd {t u : Int} (hu : u ≠ 0) : (low t u).2 * lowG t u = u := by
  obtain ⟨c, hc⟩ := lowG_dvd_right t u
  show u.fdiv (lowG t u) * lowG t u = u
  have : u.fdiv (lowG t u) = c := by
    rw [Int.fdiv_eq_of_eq_mul_right (lowG_ne hu) hc]
  rw [this, Int.mul_comm, ← hc]
theorem lowG_scale (k t u : Int) (hu : u ≠ 0) (hk : k ≠ 0) : lowG (k * t) (k * u) = k * lowG t u := by
  unfold lowG
  rw [Int.gcd_mul_left]
  have e : ((k.natAbs * Int.gcd t u : Nat) : Int) = (k.natAbs : Int) * (Int.gcd t u : Int) := by push_cast; rfl
  rw [e]
  rcases Int.lt_or_gt_of_ne hk with h | h
  · have ek : (k.natAbs : Int) = -k := by omega
    rw [ek]
    rcases Int.lt_or_gt_of_ne hu with h' | h'
    · have : 0 < k * u := Int.mul_pos_of_neg_of_neg h h'
      rw [if_neg (by omega), if_pos h', Int.neg_mul, Int.mul_neg]
    · have : k * u < 0 := Int.mul_neg_of_neg_of_pos h h'
      rw [if_pos this, if_neg (by omega), Int.neg_mul, Int.neg_neg]
  · have ek : (k.natAbs : Int) = k := by omega
    rw [ek]
    rcases Int.lt_or_gt_of_ne hu with h' | h'
    · have : k * u < 0 := Int.mul_neg_of_pos_of_neg h h'
      rw [if_pos this, if_pos h', Int.mul_neg]
    · have : 0 < k * u := Int.mul_pos h h'
      rw [if_neg (by omega), if_neg (by omega)]
/-- from an equation by products -/
theorem fdiv_of {a b c : Int} (hb : b ≠ 0) (h : a = c * b) : a.fdiv b = c := by
  rw [Int.fdiv_eq_of_eq_mul_right hb (by rw [h, Int.mul_comm])]
theorem low_scale (k t u : Int) (hu : u ≠ 0) (hk : k ≠ 0) : low (k * t) (k * u) = low t u := by
  have h1 := low_fst (t := t) hu
  have h2 := low_snd (t := t) hu
  have hg := lowG_ne (t := t) hu
  have hkg : k * lowG t u ≠ 0 := Int.mul_ne_zero hk hg
  unfold low
  rw [lowG_scale k t u hu hk]
  refine Prod.ext ?_ ?_
  · show (k * t).fdiv (k * lowG t u) = (low t u).1
    refine fdiv_of hkg ?_
    rw [show (low t u).1 * (k * lowG t u) = k * ((low t u).1 * lowG t u) by rw [Int.mul_left_comm], h1]
  · show (k * u).fdiv (k * lowG t u) = (low t u).2
    refine fdiv_of hkg ?_
    rw [show (low t u).2 * (k * lowG t u) = k * ((low t u).2 * lowG t u) by rw [Int.mul_left_comm], h2]
/-- the same fraction -/
theorem low_of {t u a b k : Int} (hb : b ≠ 0) (hk : k ≠ 0) (h1 : t = k * a) (h2 : u = k * b) : low t u = low a b := by
  rw [h1, h2, low_scale k a b hb hk]
theorem low_pos {t u : Int} (hu : u ≠ 0) : 0 < (low t u).2 := by
  have h2 := low_snd (t := t) hu
  have hg := gcd_pos (t := t) hu
  unfold lowG at h2
  rcases Int.lt_or_gt_of_ne hu with h | h
  · rw [if_pos h] at h2
    rcases Int.lt_trichotomy (low t u).2 0 with z | z | z
    · have := Int.mul_pos_of_neg_of_neg z (show -(Int.gcd t u : Int) < 0 by omega)
      omega
    · rw [z, Int.zero_mul] at h2; omega
    · exact z
  · rw [if_neg (by omega)] at h2
    rcases Int.lt_trichotomy (low t u).2 0 with z | z | z
    · have := Int.mul_neg_of_neg_of_pos z (show (0 : Int) < (Int.gcd t u : Int) by omega)
      omega
    · rw [z, Int.zero_mul] at h2; omega
    · exact z
theorem low_le1 {t u : Int} (hu : u ≠ 0) : (low t u).1.natAbs ≤ t.natAbs := by
  have h := congrArg Int.natAbs (low_fst (t := t) hu)
  rw [Int.natAbs_mul, lowG_abs] at h
  rw [← h]
  exact Nat.le_mul_of_pos_right _ (gcd_pos hu)
theorem low_le2 {t u : Int} (hu : u ≠ 0) : (low t u).2.natAbs ≤ u.natAbs := by
  have h := congrArg Int.natAbs (low_snd (t := t) hu)
  rw [Int.natAbs_mul, lowG_abs] at h
  rw [← h]
  exact Nat.le_mul_of_pos_right _ (gcd_pos hu)
theorem low_gcd {t u : Int} (hu : u ≠ 0) : Int.gcd (low t u).1 (low t u).2 = 1 := by
  have h1 := low_fst (t := t) hu
  have h2 := low_snd (t := t) hu
  have e : Int.gcd t u = Int.gcd (low t u).1 (low t u).2 * Int.gcd t u := by
    have := Int.gcd_mul_right (low t u).1 (lowG t u) (low t u).2
    rw [h1, h2, lowG_abs] at this
    exact this
  have hg := gcd_pos (t := t) hu
  have := Nat.eq_of_mul_eq_mul_right hg (show 1 * Int.gcd t u = Int.gcd (low t u).1 (low t u).2 * Int.gcd t u by rw [Nat.one_mul]; exact e)
  exact this.symm
theorem low_id {t u : Int} (hu : 0 < u) (hg : Int.gcd t u = 1) : low t u = (t, u) := by
  have e : lowG t u = 1 := by
    unfold lowG
    rw [if_neg (by omega), hg]; rfl
  unfold low
  rw [e, Int.fdiv_one, Int.fdiv_one]
theorem low_low {t u : Int} (hu : u ≠ 0) : low (low t u).1 (low t u).2 = low t u := by
  rw [low_id (low_pos hu) (low_gcd hu)]
theorem low_one (t : Int) : low t 1 = (t, 1) := low_id (by decide) (by simp)
/-! sums, products and quotients of fractions in lowest terms -/
theorem low_ex (t : Int) {u : Int} (hu : u ≠ 0) : ∃ a b g, low t u = (a, b) ∧ g ≠ 0 ∧ 0 < b ∧ t = a * g ∧ u = b * g :=
  ⟨(low t u).1, (low t u).2, lowG t u, rfl, lowG_ne hu, low_pos hu, (low_fst hu).symm, (low_snd hu).symm⟩
theorem low_add {t u c d : Int} (hu : u ≠ 0) (hd : d ≠ 0) : low ((low t u).1 * (low c d).2 + (low c d).1 * (low t u).2) ((low t u).2 * (low c d).2) = low (t * d + c * u) (u * d) := by
  obtain ⟨a, b, g, e1, hg, hb, rfl, rfl⟩ := low_ex t hu
  obtain ⟨p, q, h, e2, hh, hq, rfl, rfl⟩ := low_ex c hd
  rw [e1, e2]
  symm
  refine low_of (k := g * h) (Int.ne_of_gt (Int.mul_pos hb hq)) (Int.mul_ne_zero hg hh) ?_ ?_
  · show a * g * (q * h) + p * h * (b * g) = g * h * (a * q + p * b)
    grind
  · show b * g * (q * h) = g * h * (b * q)
    grind
theorem low_sub {t u c d : Int} (hu : u ≠ 0) (hd : d ≠ 0) : low ((low t u).1 * (low c d).2 + -(low c d).1 * (low t u).2) ((low t u).2 * (low c d).2) = low (t * d - c * u) (u * d) := by
  obtain ⟨a, b, g, e1, hg, hb, rfl, rfl⟩ := low_ex t hu
  obtain ⟨p, q, h, e2, hh, hq, rfl, rfl⟩ := low_ex c hd
  rw [e1, e2]
  symm
  refine low_of (k := g * h) (Int.ne_of_gt (Int.mul_pos hb hq)) (Int.mul_ne_zero hg hh) ?_ ?_
  · show a * g * (q * h) - p * h * (b * g) = g * h * (a * q + -p * b)
    grind
  · show b * g * (q * h) = g * h * (b * q)
    grind
theorem low_mul {t u c d : Int} (hu : u ≠ 0) (hd : d ≠ 0) : low ((low t u).1 * (low c d).1) ((low t u).2 * (low c d).2) = low (t * c) (u * d) := by
  obtain ⟨a, b, g, e1, hg, hb, rfl, rfl⟩ := low_ex t hu
  obtain ⟨p, q, h, e2, hh, hq, rfl, rfl⟩ := low_ex c hd
  rw [e1, e2]
  symm
  refine low_of (k := g * h) (Int.ne_of_gt (Int.mul_pos hb hq)) (Int.mul_ne_zero hg hh) ?_ ?_
  · show a * g * (p * h) = g * h * (a * p)
    grind
  · show b * g * (q * h) = g * h * (b * q)
    grind
theorem low_ne0 {t u : Int} (hu : u ≠ 0) : (low t u).1 = 0 ↔ t = 0 := by
  have h := low_fst (t := t) hu
  constructor
  · intro z
    rw [z, Int.zero_mul] at h
    exact h.symm
  · intro z
    rw [z] at h
    rcases Int.mul_eq_zero.mp h with y | y
    · rw [z]; exact y
    · exact absurd y (lowG_ne hu)
theorem low_by {t u c d : Int} (hu : u ≠ 0) (hd : d ≠ 0) (hc : c ≠ 0) : low ((low t u).1 * (low c d).2) ((low t u).2 * (low c d).1) = low (t * d) (u * c) := by
  have z : ¬ (low c d).1 = 0 := fun y => hc ((low_ne0 (t := c) hd).mp y)
  obtain ⟨a, b, g, e1, hg, hb, rfl, rfl⟩ := low_ex t hu
  obtain ⟨p, q, h, e2, hh, hq, rfl, rfl⟩ := low_ex c hd
  rw [e2] at z
  rw [e1, e2]
  symm
  refine low_of (k := g * h) (Int.mul_ne_zero (Int.ne_of_gt hb) z) (Int.mul_ne_zero hg hh) ?_ ?_
  · show a * g * (q * h) = g * h * (a * q)
    grind
  · show b * g * (p * h) = g * h * (b * p)
    grind
theorem low_neg {t u : Int} (hu : u ≠ 0) : low (-(low t u).1) (low t u).2 = low (-t) u := by
  obtain ⟨a, b, g, e1, hg, hb, rfl, rfl⟩ := low_ex t hu
  rw [e1]
  symm
  refine low_of (k := g) (Int.ne_of_gt hb) hg ?_ ?_
  · show -(a * g) = g * -a
    grind
  · show b * g = g * b
    grind
/-- a fraction in lowest terms, its sign turned -/
theorem low_neg_eq {t u : Int} (hu : u ≠ 0) : low (-t) u = (-(low t u).1, (low t u).2) := by
  rw [← low_neg hu]
  refine low_id (low_pos hu) ?_
  rw [Int.neg_gcd]
  exact low_gcd hu
def iabs (i : Int) : Int := if i < 0 then -i else i
theorem iabs_eq (i : Int) : iabs i = (i.natAbs : Int) := by unfold iabs; split <;> omega
theorem low_abs {t u : Int} (hu : u ≠ 0) : low (iabs (low t u).1) (low t u).2 = low (iabs t) (iabs u) := by
  obtain ⟨a, b, g, e1, hg, hb, rfl, rfl⟩ := low_ex t hu
  rw [e1, iabs_eq, iabs_eq, iabs_eq]
  symm
  refine low_of (k := g.natAbs) (Int.ne_of_gt hb) (by omega) ?_ ?_
  · show ((a * g).natAbs : Int) = g.natAbs * (a.natAbs : Int)
    rw [Int.natAbs_mul, Int.natCast_mul, Int.mul_comm]
  · show ((b * g).natAbs : Int) = g.natAbs * b
    rw [Int.natAbs_mul, Int.natCast_mul, Int.mul_comm, show (b.natAbs : Int) = b by omega]
theorem low_floor {t u : Int} (hu : u ≠ 0) : (low t u).1 / (low t u).2 = t.fdiv u := by
  obtain ⟨a, b, g, e1, hg, hb, rfl, rfl⟩ := low_ex t hu
  rw [e1]
  show a / b = (a * g).fdiv (b * g)
  rcases Int.lt_or_gt_of_ne hg with h | h
  · rw [show a * g = -(a * -g) by grind, show b * g = -(b * -g) by grind, Int.neg_fdiv_neg, Int.fdiv_eq_ediv_of_nonneg _ (Int.le_of_lt (Int.mul_pos hb (by omega))), Int.mul_ediv_mul_of_pos_left _ _ (by omega)]
  · rw [Int.fdiv_eq_ediv_of_nonneg _ (Int.le_of_lt (Int.mul_pos hb h)), Int.mul_ediv_mul_of_pos_left _ _ h]
theorem gcd_step {x y : Int} (hx : 0 ≤ x) (hy : 0 ≤ y) : Int.gcd y (x % y) = Int.gcd x y := by
  obtain ⟨m, rfl⟩ := Int.eq_ofNat_of_zero_le hx
  obtain ⟨n, rfl⟩ := Int.eq_ofNat_of_zero_le hy
  rw [← Int.natCast_emod, Int.gcd_natCast_natCast, Int.gcd_natCast_natCast, Nat.gcd_comm n, ← Nat.gcd_rec, Nat.gcd_comm]
end Ps

/-! Defs, methods, classes, operators, properties of the text as things to be called, their addresses hidden. -/
namespace Ps
open PySem PySem.Spec PyProof.Rows PySem.W L2

/-- where one stands, the same for all defs of the text -/
structure Cz where
  P : Program
  w : World
  K : Frag
  mg : Str → Option Value
  base : Heap
abbrev Cz.ok (Z : Cz) (CX : CXT) (k : Nat) (f : Addr) (fd : FuncData) (ps : List Str) (sp : Sp) : Prop := FnOk Z.P Z.w Z.K Z.mg Z.base CX k f fd ps sp
/-- a def -/
def Cal (Z : Cz) (CX : CXT) (k : Nat) (x : Str) (ps : List Str) (dvs : List V) (sp : Sp) : Prop := ∃ f fd ds, Z.ok CX k f fd ps sp ∧ Z.mg x = some (.ref f) ∧ keepIn Z.K (.ref f) = true ∧ Binds Z.K fd ps ds ∧ Vals dvs ds
/-- a method m of the class at C -/
def CalM (Z : Cz) (CX : CXT) (k : Nat) (C : Addr) (m : Str) (ps : List Str) (dvs : List V) (sp : Sp) : Prop := ∃ f fd ds, Z.ok CX k f fd ps sp ∧ Meth Z.K C m f ∧ Cls Z.K C ∧ Binds Z.K fd ps ds ∧ Vals dvs ds
/-- the class at C, made by its __init__ -/
def CalC (Z : Cz) (CX : CXT) (k : Nat) (C : Addr) (x : Str) (ps : List Str) (dvs : List V) (sp : Sp) : Prop := ∃ f fd ds, Z.ok CX k f fd ps sp ∧ Mk Z.K C f ∧ Z.mg x = some (.ref C) ∧ Binds Z.K fd ps ds ∧ Vals dvs ds
/-- a special method nm of the class at C -/
def CalS (Z : Cz) (CX : CXT) (k : Nat) (C : Addr) (nm : Str) (ps : List Str) (sp : Sp) : Prop := ∃ f fd, Z.ok CX k f fd ps sp ∧ OwnOp Z.K C f nm ∧ Binds Z.K fd ps []
/-- a property -/
def CalP (Z : Cz) (CX : CXT) (k : Nat) (C : Addr) (nm : Str) (sp : Sp) : Prop := ∃ p g fd ds, Z.ok CX k g fd ["self"] sp ∧ PropOf Z.K C nm p g ∧ Cls Z.K C ∧ Binds Z.K fd ["self"] ds ∧ Vals [] ds

/-- a body stands in Z -/
structure InZ (Z : Cz) (X : Cx) : Prop where
  P : X.prog = Z.P
  w : X.w = Z.w
  K : X.K = Z.K
  mg : X.mg = Z.mg
  base : X.base = Z.base

section
variable {Z : Cz} {X : Cx} {CX : CXT} {k : Nat} {C : Addr} {ps : List Str} {sp : Sp} {dvs : List V} {E : XK} {x m nm : Str} {p pos apos : Pos} {e o a b : Expr} {es : List Expr} {ta tb : TE} {t : TA}
theorem InZ.ok (z : InZ Z X) {f : Addr} {fd : FuncData} (G : Z.ok CX k f fd ps sp) : FnOk X.prog X.w X.K X.mg X.base CX k f fd ps sp := by
  obtain ⟨h1, h2, h3, h4, h5⟩ := z
  rw [h1, h2, h3, h4, h5]
  exact G
theorem pe_cal (c : Cal Z CX k x ps dvs sp) (hr : Room k X.A) (hg : Gl X x) (hx : Passes CX X E) (ha : PA X (e :: es) t) (z : InZ Z X := by exact ⟨rfl, rfl, rfl, rfl, rfl⟩)
    (hdb : (x == ("__debug__" : Str)) = false := by decide) (he : starEach (e :: es) X.env = (false, eval e X.env) :: starEach es X.env := by rfl) (hpl : (backTo pos (starEach es X.env)).any (·.1) = false := by rfl) :
    PE X (.Call (.Name x p) (e :: es) [] pos) (tCall sp dvs E t) := by
  obtain ⟨f, fd, ds, G, h1, h2, h3, h4⟩ := c
  exact pe_call (z.ok G) hr hg (by rw [z.mg]; exact h1) (by rw [z.K]; exact h2) (by rw [z.K]; exact h3) h4 hx ha hdb he hpl
theorem pe_cal0 (c : Cal Z CX k x ps dvs sp) (hr : Room k X.A) (hg : Gl X x) (hx : Passes CX X E) (z : InZ Z X := by exact ⟨rfl, rfl, rfl, rfl, rfl⟩)
    (hdb : (x == ("__debug__" : Str)) = false := by decide) : PE X (.Call (.Name x p) [] [] pos) (tCall sp dvs E tNil) := by
  obtain ⟨f, fd, ds, G, h1, h2, h3, h4⟩ := c
  exact pe_call0 (z.ok G) hr hg (by rw [z.mg]; exact h1) (by rw [z.K]; exact h2) (by rw [z.K]; exact h3) h4 hx hdb
theorem pe_calM {pl : Sem Bool} (c : CalM Z CX k C m ps dvs sp) (hr : Room k X.A) (hx : Passes CX X E) (he : PE X o ta) (ha : PA X (e :: es) t) (z : InZ Z X := by exact ⟨rfl, rfl, rfl, rfl, rfl⟩)
    (hst : starEach (e :: es) X.env = (false, eval e X.env) :: starEach es X.env := by rfl) (hpl : (backTo pos (starEach es X.env)).any (·.1) = false := by rfl)
    (ht : eval (.Call (.Attribute o m apos) (e :: es) [] pos) X.env = (do
      let ov ← eval o X.env
      standAt apos.atName
      let (f, first) ← holding [ov] (getMethod ov m pl)
      callWith pos f first (backTo pos (starEach (e :: es) X.env)) (backToKw pos (keywordEach [] X.env))) := by rfl) :
    PE X (.Call (.Attribute o m apos) (e :: es) [] pos) (tMeth C m sp dvs E ta t) := by
  obtain ⟨f, fd, ds, G, h1, h2, h3, h4⟩ := c
  exact pe_meth (pl := pl) he (by rw [z.K]; exact h2) (by rw [z.K]; exact h1) (z.ok G) hr (by rw [z.K]; exact h3) h4 hx ha hst hpl ht
theorem pe_calM0 {pl : Sem Bool} (c : CalM Z CX k C m ps dvs sp) (hr : Room k X.A) (hx : Passes CX X E) (he : PE X o ta) (z : InZ Z X := by exact ⟨rfl, rfl, rfl, rfl, rfl⟩)
    (ht : eval (.Call (.Attribute o m apos) [] [] pos) X.env = (do
      let ov ← eval o X.env
      standAt apos.atName
      let (f, first) ← holding [ov] (getMethod ov m pl)
      callWith pos f first (backTo pos (starEach [] X.env)) (backToKw pos (keywordEach [] X.env))) := by rfl) :
    PE X (.Call (.Attribute o m apos) [] [] pos) (tMeth C m sp dvs E ta tNil) := by
  obtain ⟨f, fd, ds, G, h1, h2, h3, h4⟩ := c
  exact pe_meth0 (pl := pl) he (by rw [z.K]; exact h2) (by rw [z.K]; exact h1) (z.ok G) hr (by rw [z.K]; exact h3) h4 hx ht
theorem pe_calC (c : CalC Z CX k C x ps dvs sp) (hr : Room (k + 1) X.A) (hg : Gl X x) (hx : Passes CX X E) (ha : PA X (e :: es) t) (z : InZ Z X := by exact ⟨rfl, rfl, rfl, rfl, rfl⟩)
    (hdb : (x == ("__debug__" : Str)) = false := by decide) (he : starEach (e :: es) X.env = (false, eval e X.env) :: starEach es X.env := by rfl) (hpl : (backTo pos (starEach es X.env)).any (·.1) = false := by rfl) :
    PE X (.Call (.Name x p) (e :: es) [] pos) (tMake C sp dvs E t) := by
  obtain ⟨f, fd, ds, G, h1, h2, h3, h4⟩ := c
  exact pe_make (by rw [z.K]; exact h1) (z.ok G) hr hg (by rw [z.mg]; exact h2) (by rw [z.K]; exact h3) h4 hx ha hdb he hpl
theorem pe_calP (c : CalP Z CX k C nm sp) (hr : Room (k + 1) X.A) (hx : Passes CX X.nox E) (he : PE X e ta) (hab : attributeBase e nm X.env (eval e X.env) = eval e X.env) (z : InZ Z X := by exact ⟨rfl, rfl, rfl, rfl, rfl⟩) : PE X (.Attribute e nm pos) (tProp C sp [] E ta) := by
  obtain ⟨p, g, fd, ds, G, h1, h2, h3, h4⟩ := c
  exact pe_prop he (by rw [z.K]; exact h2) (by rw [z.K]; exact h1) (z.ok G) hr (by rw [z.K]; exact h3) h4 hx hab

/-- what is known of the number methods of a class and of int's -/
structure NumF (K : Frag) (C : Addr) (nm : String) : Prop where
  l : ∃ f, findIn K (.ref C) (PySem.dunder nm) = some (some (.ref f))
  r : ∃ f, findIn K (.ref C) (dunderR nm) = some (some (.ref f))
  il : ∃ o, findIn K (.type "int") (PySem.dunder nm) = some o
  ir : ∃ o, findIn K (.type "int") (dunderR nm) = some o
  sub : subIn K (.type "int") (.ref C) = some false
  sup : subIn K (.ref C) (.type "int") = some false
/-- a number on the right: x + y, x an own instance, y one or an int -/
def rNum (C : Addr) (sp : Sp) (E : XK) : R2 := fun x y H Q => InsC C H x ∧ (InsC C H y ∨ ∃ i, y = .int i) ∧ sp [x, y] H Q E
theorem op_num {op : Operator} (c : CalS Z CX k C (PySem.dunder op.info.2) ps sp) (N : NumF Z.K C op.info.2) (hr : Room k X.A) (hx : Passes CX X E) (z : InZ Z X := by exact ⟨rfl, rfl, rfl, rfl, rfl⟩) : OpR X (binaryOp op) (rNum C sp E) := by
  obtain ⟨f, fd, G, h1, h2⟩ := c
  obtain ⟨_, ⟨fr, hfr⟩, ⟨o1, ho1⟩, ⟨o2, ho2⟩, hs1, hs2⟩ := N
  have z' := z
  obtain ⟨e1, e2, e3, e4, e5⟩ := z
  intro pins s σ H x y v u Q I rx ry h
  obtain ⟨hx', hy | hy, hsp⟩ := h
  · exact op_own (by rw [e3]; exact h1) (z'.ok G) hr (by rw [e3]; exact h2) hx pins s σ H x y v u Q I rx ry ⟨hx', hy, hsp⟩
  · exact op_ownI (rc := some (.ref fr)) (by rw [e3]; exact h1) (by rw [e3]; exact hfr) (.inr ⟨fr, rfl⟩) (by rw [e3]; exact ho1) (by rw [e3]; exact ho2) (by rw [e3]; exact hs1) (z'.ok G) hr (by rw [e3]; exact h2) hx pins s σ H x y v u Q I rx ry ⟨hx', hy, hsp⟩
theorem op_rev {op : Operator} {id : String} (c : CalS Z CX k C (dunderR op.info.2) ps sp) (N : NumF Z.K C op.info.2) (hfl : fillsNumberSlot (.type "int") op.info.2 = pure true) (sl : Slot "int" (PySem.dunder op.info.2) id)
    (hd : ∀ {s : Shared} {x C dx : Addr} {t : Tok} {i : Int} {Q : Value → Shared → Prop}, s.heap.get? x = some (instObj C dx) → Q .notImplemented s → wpAny (model X.prog X.w) X.A (call (.builtin id) [.int i t, .ref x]) Q X.xe s)
    (hr : Room k X.A) (hx : Passes CX X E) (z : InZ Z X := by exact ⟨rfl, rfl, rfl, rfl, rfl⟩) : OpR X (binaryOp op) (rRefI C sp E) := by
  obtain ⟨f, fd, G, h1, h2⟩ := c
  obtain ⟨⟨fl, hfl'⟩, _, _, _, hs1, hs2⟩ := N
  have z' := z
  obtain ⟨e1, e2, e3, e4, e5⟩ := z
  exact op_refI (f' := fl) (by rw [e3]; exact h1) (by rw [e3]; exact hfl') (by rw [e3]; exact hs2) hfl sl hd (z'.ok G) hr (by rw [e3]; exact h2) hx
theorem op_radd (c : CalS Z CX k C "__radd__" ps sp) (N : NumF Z.K C "add") (hr : Room k X.A) (hx : Passes CX X E) (z : InZ Z X := by exact ⟨rfl, rfl, rfl, rfl, rfl⟩) : OpR X (binaryOp .Add) (rRefI C sp E) :=
  op_rev (op := .Add) c N F.fills_int_add F.slot_int_add (fun h q => dec_add h q) hr hx z
theorem op_rsub (c : CalS Z CX k C "__rsub__" ps sp) (N : NumF Z.K C "sub") (hr : Room k X.A) (hx : Passes CX X E) (z : InZ Z X := by exact ⟨rfl, rfl, rfl, rfl, rfl⟩) : OpR X (binaryOp .Sub) (rRefI C sp E) :=
  op_rev (op := .Sub) c N F.fills_int_sub F.slot_int_sub (fun h q => dec_sub h q) hr hx z
theorem op_rmul (c : CalS Z CX k C "__rmul__" ps sp) (N : NumF Z.K C "mul") (hr : Room k X.A) (hx : Passes CX X E) (z : InZ Z X := by exact ⟨rfl, rfl, rfl, rfl, rfl⟩) : OpR X (binaryOp .Mult) (rRefI C sp E) :=
  op_rev (op := .Mult) c N F.fills_int_mul F.slot_int_mul (fun h q => dec_mul h q) hr hx z
theorem un_cal (c : CalS Z CX k C "__neg__" ps sp) (hr : Room k X.A) (hx : Passes CX X E) (z : InZ Z X := by exact ⟨rfl, rfl, rfl, rfl, rfl⟩) : UnR X (unaryOp .USub) (rUOwn C sp E) := by
  obtain ⟨f, fd, G, h1, h2⟩ := c
  have z' := z
  obtain ⟨e1, e2, e3, e4, e5⟩ := z
  exact un_own (by rw [e3]; exact h1) (z'.ok G) hr (by rw [e3]; exact h2) hx
theorem abs_cal (c : CalS Z CX k C "__abs__" ps sp) (hr : Room (k + 1) X.A) (hx : Passes CX X E) (z : InZ Z X := by exact ⟨rfl, rfl, rfl, rfl, rfl⟩) : CallR X (.builtin "abs") (fun xs H Q => ∃ x, xs = [x] ∧ InsC C H x ∧ sp [x] H Q E) := by
  obtain ⟨f, fd, G, h1, h2⟩ := c
  have z' := z
  obtain ⟨e1, e2, e3, e4, e5⟩ := z
  exact call_absO (by rw [e3]; exact h1) (z'.ok G) hr (by rw [e3]; exact h2) hx
end
/-! ### tests -/
theorem iteD {c A B : Prop} [Decidable c] (h1 : c → A) (h2 : ¬ c → B) : if decide c = true then A else B := by
  by_cases h : c
  · rw [decide_eq_true h]; exact iteT (h1 h)
  · rw [decide_eq_false h]; exact iteF (h2 h)
theorem iteND {c A B : Prop} [Decidable c] (h1 : ¬ c → A) (h2 : c → B) : if (!decide c) = true then A else B := by
  by_cases h : c
  · rw [decide_eq_true h]; exact iteF (h2 h)
  · rw [decide_eq_false h]; exact iteT (h1 h)
theorem iteB {b : Bool} {A B : Prop} (h1 : b = true → A) (h2 : b = false → B) : if b = true then A else B := by
  cases b with
  | true => exact iteT (h1 rfl)
  | false => exact iteF (h2 rfl)
/-! ### short words for built-ins -/
section
variable {X : Cx} {e : Expr} {te : TE} {p pos : Pos}
/-- int(e) of an int -/
def rInt1 : List V → Hp → VK → Prop := fun xs H Q => ∃ i, xs = [.int i] ∧ Q (.int i) H
theorem call_intI : CallR X (.type "int") rInt1 := by
  intro pins s σ H xs us Q I r h
  exact call_int1 pins s σ H xs us Q I r (.inl h)
theorem pe_int1 (hg : Gl X "int") (hm : X.mg "int" = none) (he : PE X e te) (hs : starEach (e :: []) X.env = (false, eval e X.env) :: starEach [] X.env := by rfl) (hpl : (backTo pos (starEach [] X.env)).any (·.1) = false := by rfl) : PE X (.Call (.Name "int" p) [e] [] pos) (tCB rInt1 (tCons te tNil)) :=
  pe_callTy call_intI hg hm (by decide +kernel) (pa_cons he pa_nil hs) (by decide) (by decide) hs hpl
end
/-! ### from what stands behind the top -/
section
variable {Z : Cz} {CX : CXT} {k : Nat} {C : Addr} {ps : List Str} {sp : Sp} {dvs : List V} {x m nm qual : Str} {st : Stmt}
theorem Cal.mono {j : Nat} (c : Cal Z CX k x ps dvs sp) (h : k ≤ j) : Cal Z CX j x ps dvs sp := by
  obtain ⟨f, fd, ds, G, h1⟩ := c
  exact ⟨f, fd, ds, G.mono h, h1⟩
theorem CalM.mono {j : Nat} (c : CalM Z CX k C x ps dvs sp) (h : k ≤ j) : CalM Z CX j C x ps dvs sp := by
  obtain ⟨f, fd, ds, G, h1⟩ := c
  exact ⟨f, fd, ds, G.mono h, h1⟩
theorem CalS.mono {j : Nat} (c : CalS Z CX k C x ps sp) (h : k ≤ j) : CalS Z CX j C x ps sp := by
  obtain ⟨f, fd, G, h1⟩ := c
  exact ⟨f, fd, G.mono h, h1⟩
end
end Ps

/-! Shares: the promises of the defs of shares.py where nothing is raised. -/
namespace Ps
open PySem PySem.Spec PyProof.Rows PySem.W L2

/-! ### floor division by any divisor but 0, below 2 ^ 9000 -/
def CDivG (_ j : Int) : Prop := j ≠ 0 ∧ j.natAbs.log2 < 9000
theorem op_fdivG {X : Cx} : OpR X (binaryOp .FloorDiv) (rI CDivG fun i j => .int (i.fdiv j)) := opI fun i j _ _ _ _ _ hc q => floordiv_int hc.1 q (.inl (PyProof.noPylong_of_log2 hc.2))
theorem divG {i j : Int} {b : Nat} (h : j ≠ 0) (hb : j.natAbs < 2 ^ b) (h0 : 0 < b) (h9 : b ≤ 9000) : CDivG i j := ⟨h, Nat.lt_of_lt_of_le (PySem.Flt.log2_lt_of h0 hb) h9⟩

/-- the name of a built-in class -/
theorem pe_ty {X : Cx} {x : Str} {pos : Pos} (T : String) (hg : Gl X x) (hm : X.mg x = none) (hv : bootBuiltins x = some (.type T)) (hn : x ≠ "__name__" := by decide) (hd : (x == ("__debug__" : Str)) = false := by decide) : PE X (.Name x pos) (tC (.ty T)) := pe_bltn hg hm hv rfl hn hd

/-! ### the data -/
def shF (t u : Int) : List (Str × V) := [("own_top", .int t), ("own_under", .int u)]
/-- v is a share t / u -/
def Sh (C : Addr) (H : Hp) (v : V) (q : Int × Int) : Prop := ∃ a dx, v = .ref a ∧ H a = some (.ins C dx (shF q.1 q.2))
theorem Sh.mono {C : Addr} {H H' : Hp} {v : V} {q : Int × Int} (e : Same H H') (h : Sh C H v q) : Sh C H' v q := by
  obtain ⟨a, dx, hv, h⟩ := h
  exact ⟨a, dx, hv, e _ _ h⟩
theorem Sh.ins {C : Addr} {H : Hp} {v : V} {q : Int × Int} (h : Sh C H v q) : InsC C H v := by
  obtain ⟨a, dx, hv, h⟩ := h
  exact ⟨a, dx, _, hv, h⟩
theorem shF_top (t u : Int) : (shF t u).lookup ("own_top" : Str) = some (.int t) := rfl
theorem shF_under (t u : Int) : (shF t u).lookup ("own_under" : Str) = some (.int u) := by
  unfold shF
  rw [List.lookup_cons]
  rfl

/-- a number: a share or an int -/
def Nb (C : Addr) (H : Hp) (v : V) (q : Int × Int) : Prop := Sh C H v q ∨ ∃ i, v = .int i ∧ q = (i, 1)
theorem Nb.mono {C : Addr} {H H' : Hp} {v : V} {q : Int × Int} (e : Same H H') (h : Nb C H v q) : Nb C H' v q := by
  rcases h with h | h
  · exact .inl (h.mono e)
  · exact .inr h
theorem Nb.num {C : Addr} {H : Hp} {v : V} {q : Int × Int} (h : Nb C H v q) : InsC C H v ∨ ∃ i, v = .int i := by
  rcases h with h | ⟨i, h, _⟩
  · exact .inl h.ins
  · exact .inr ⟨i, h⟩
/-- sizes: both parts below 2 ^ n, the under not 0 -/
structure Sz (n : Nat) (q : Int × Int) : Prop where
  ne : q.2 ≠ 0
  t : q.1.natAbs < 2 ^ n
  u : q.2.natAbs < 2 ^ n

/-- what stands at the top of the text, as far as shares go -/
structure ShT (Z : Cz) (C : Addr) : Prop where
  cl : Cls Z.K C
  nT : NoAttr Z.K C "own_top"
  nU : NoAttr Z.K C "own_under"
  mgC : Z.mg "Share" = some (.ref C)
  isi : Z.mg "isinstance" = none
  int : Z.mg "int" = none
  bool : Z.mg "bool" = none
  abs : Z.mg "abs" = none
  ha : findIn Z.K (.ref C) "__class__" = some (some (.builtin "object.__class__"))
  hn : specialIn Z.K (.builtin "object.__class__") "__get__" = some (some (.builtin "getset_descriptor.__get__"))
  htk : takesIn Z.K (.builtin "object.__class__") = some true
  hm : mroIn Z.K C (.type "object") = some true
  kCC : kitOne Z.K (.ref C) (.ref C) = some true
  kCI : kitOne Z.K (.ref C) (.type "int") = some false
  kIC : kitOne Z.K (.type "int") (.ref C) = some false
theorem ShT.ty {Z : Cz} {C : Addr} (T : ShT Z C) {H : Hp} {a dx : Addr} {fs : List (Str × V)} (h : H a = some (.ins C dx fs)) : TyX Z.K H (.ref a) (.ref C) := .base (.ins h T.cl T.ha T.hn T.htk T.hm)

section
variable {Z : Cz}

/-- is_integer -/
def spIsInt (K : Frag) : Sp := fun vs H Q _ => ∃ v t, vs = [v] ∧ TyX K H v t ∧ ((t = .type "int" ∧ Q (.bl true) H) ∨ (t = .type "bool" ∧ Q (.bl false) H) ∨ (kitOne K t (.type "int") = some false ∧ Q (.bl false) H))
theorem ok_is_integer {f C : Addr} {fd : FuncData} (F : Fun Z.K "is_integer" "is_integer" s_is_integer f fd) (T : ShT Z C) : Z.ok CX0 1 f fd ["value"] (spIsInt Z.K) := by
  refine F.ok sc_is_integer (fun vs H Q E h => ?_) (fun cdv A outer s H vs Q E hr h => ?_)
  · obtain ⟨v, t, rfl, _⟩ := h
    rfl
  · obtain ⟨v, t, rfl, ty, h⟩ := h
    refine ⟨_, pss_one (ps_ret (pe_and (pe_callB call_isi (by rfl) T.isi (by decide +kernel) (pa_cons (pv 0) (pa_cons (pe_ty "int" (by rfl) T.int (by decide +kernel)) pa_nil)))
      (pe_one (pe_not (pe_callB call_isi (by rfl) T.isi (by decide +kernel) (pa_cons (pv 0) (pa_cons (pe_ty "bool" (by rfl) T.bool (by decide +kernel)) pa_nil))))))), ?_⟩
    rcases h with ⟨rfl, q⟩ | ⟨rfl, q⟩ | ⟨e, q⟩
    · refine ⟨_, rfl, _, _, _, _, true, rfl, .ty "int", ty, kit_ty (by decide +kernel), _, rfl, iteT ?_⟩
      exact ⟨_, rfl, _, _, _, _, false, rfl, .ty "bool", ty, kit_ty (by decide +kernel), _, rfl, q⟩
    · refine ⟨_, rfl, _, _, _, _, true, rfl, .ty "int", ty, kit_ty (by decide +kernel), _, rfl, iteT ?_⟩
      exact ⟨_, rfl, _, _, _, _, true, rfl, .ty "bool", ty, kit_ty (by decide +kernel), _, rfl, q⟩
    · exact ⟨_, rfl, _, _, _, _, false, rfl, .ty "int", ty, e, _, rfl, iteF q⟩

/-- common: the greatest common divisor -/
def spCommon : Sp := fun vs H Q _ => ∃ a b : Int, vs = [.int a, .int b] ∧ Q (.int (Int.gcd a b)) H
theorem ok_common {f C : Addr} {fd : FuncData} (F : Fun Z.K "common" "common" s_common f fd) (T : ShT Z C) : Z.ok CX0 1 f fd ["one", "other"] spCommon := by
  refine F.ok sc_common (fun vs H Q E h => ?_) (fun cdv A outer s H vs Q E hr h => ?_)
  · obtain ⟨a, b, rfl, _⟩ := h
    rfl
  · obtain ⟨a, b, rfl, h⟩ := h
    refine ⟨_, pss_cons (ps_set (i := 0) sc_common.nd rfl (Or.inl rfl) (pe_callB call_abs (by rfl) T.abs (by decide +kernel) (pa_cons (pv 0) pa_nil)))
      (pss_cons (ps_set (i := 1) sc_common.nd rfl (Or.inl rfl) (pe_callB call_abs (by rfl) T.abs (by decide +kernel) (pa_cons (pv 1) pa_nil)))
      (pss_cons (ps_while PassesOwn.never (pt_cmpR op_ne (pv 1) pe_int (nomark _)) (pss_one (ps_par (i := 0) (j := 1) (by rfl) sc_common.nd rfl rfl (by decide) rfl rfl (pa_cons (pv 1) (pa_cons (pe_op op_mod (pv 0) (pv 1)) pa_nil)) (by rfl))))
      (pss_one (ps_ret (pv 0))))), ?_⟩
    refine ⟨_, rfl, _, rfl, _, rfl, _, rfl, ?_⟩
    refine while_by (fun σ H' => ∃ x y : Int, σ = [some (.int x), some (.int y)] ∧ H' = H ∧ 0 ≤ x ∧ 0 ≤ y ∧ Int.gcd x y = Int.gcd a b) (fun σ _ => match σ with | [_, some (.int y)] => y.toNat | _ => 0)
      ⟨_, _, rfl, rfl, ?_, ?_, ?_⟩ (fun σ H1 z => ?_) (fun σ H1 Q Q' m z => ?_)
    · split <;> omega
    · split <;> omega
    · rw [show (if a < 0 then -a else a) = ((a.natAbs : Nat) : Int) by split <;> omega, show (if b < 0 then -b else b) = ((b.natAbs : Nat) : Int) by split <;> omega]
      rfl
    · obtain ⟨x, y, rfl, rfl, hx, hy, e⟩ := z
      refine ⟨_, rfl, rfl, _, rfl, ?_⟩
      by_cases hy0 : y = 0
      · subst hy0
        refine iteNS rfl ?_
        refine ⟨_, rfl, ?_⟩
        have e2 : Int.gcd x 0 = x.natAbs := Int.gcd_zero_right ..
        rw [e2] at e
        rw [← e] at h
        have e3 : ((x.natAbs : Nat) : Int) = x := by omega
        rw [e3] at h
        exact h
      · rw [decide_eq_false (show ¬ V.int y = V.int 0 from fun z => hy0 (V.int.inj z))]
        refine iteT ?_
        refine ⟨_, rfl, _, rfl, _, rfl, _, _, rfl, rfl, (by show (0 : Int) < y; omega), _, _, rfl, ?_⟩
        have h1 := Int.emod_nonneg x hy0
        have h2 := Int.emod_lt_of_pos x (show 0 < y by omega)
        refine ⟨⟨_, _, rfl, rfl, hy, h1, ?_⟩, ?_⟩
        · rw [← e]
          exact gcd_step hx hy
        · show (x % y).toNat < y.toNat
          omega
    · obtain ⟨v, hv, z1, k, hk, z2⟩ := z
      exact ⟨v, hv, z1, k, hk, m _ _ z2⟩

/-- Share.__init__ -/
def spShInit (C : Addr) : Sp := fun vs H Q _ => ∃ (p dx : Addr) (t u : Int), vs = [.ref p, .int t, .int u] ∧ H p = some (.ins C dx []) ∧ u ≠ 0 ∧ u.natAbs < 2 ^ 9000 ∧
  ∀ H' : Hp, (∀ b, b ≠ p → H' b = H b) → H' p = some (.ins C dx (shF (low t u).1 (low t u).2)) → Q .non H'
theorem ok_ShInit {f C : Addr} {fd : FuncData} (F : FunD Z.K "__init__" "Share.__init__" (defArgs s_Share_dd_init) (defBody s_Share_dd_init) (defScope s_Share_dd_init) [.int 1] [] f fd) (T : ShT Z C)
    (c1 : Cal Z CX0 1 "is_integer" ["value"] [] (spIsInt Z.K)) (c2 : Cal Z CX0 1 "common" ["one", "other"] [] spCommon) :
    Z.ok CX0 2 f fd ["self", "top", "under"] (spShInit C) := by
  refine F.ok sc_Share_dd_init (fun vs H Q E h => ?_) (fun cdv A outer s H vs Q E hr h => ?_)
  · obtain ⟨p, dx, t, u, rfl, _⟩ := h
    rfl
  · obtain ⟨p, dx, t, u, rfl, hp, hu, hb, k⟩ := h
    have nd := sc_Share_dd_init.nd
    refine ⟨_, pss_cons (ps_if (PW.pt (pw_or (pt_not (pt_val (pe_cal c1 hr (by rfl) pass0 (pa_cons (pv 1) pa_nil)))) (pw_or (pt_not (pt_val (pe_cal c1 hr (by rfl) pass0 (pa_cons (pv 2) pa_nil)))) (pw_or1 (pt_cmpR op_eq (pv 2) pe_int (nomark _)))))) (pss_one ps_never) pss_nil)
      (pss_cons (ps_set (i := 3) nd rfl (Or.inl rfl) (pe_cal c2 hr (by rfl) pass0 (pa_cons (pv 1) (pa_cons (pv 2) pa_nil))))
      (pss_cons (ps_if (pt_cmpR op_lt (pv 2) pe_int (nomark _)) (pss_one (ps_set (i := 3) nd rfl (Or.inl rfl) (pe_un un_neg (pv 3)))) pss_nil)
      (pss_cons (ps_fld (pv 0) (pe_op op_fdivG (pv 1) (pv 3)) rfl)
      (pss_one (ps_fld (pv 0) (pe_op op_fdivG (pv 2) (pv 3)) rfl))))), ?_⟩
    refine ⟨_, rfl, _, _, rfl, .base (.int _), .inl ⟨rfl, _, rfl, iteF ?_⟩⟩
    refine ⟨_, rfl, _, _, rfl, .base (.int _), .inl ⟨rfl, _, rfl, iteF ?_⟩⟩
    refine ⟨_, rfl, rfl, _, rfl, ?_⟩
    rw [decide_eq_false (show ¬ V.int u = V.int 0 from fun z => hu (V.int.inj z))]
    refine iteF ?_
    refine ⟨_, rfl, _, rfl, _, _, rfl, ?_⟩
    have fin : ∀ (H1 : Hp) (σ : L2.St), H1 = H → σ = [some (.ref p), some (.int t), some (.int u), some (.int (lowG t u))] → (tSeq (sFld Z.K (tVar 0) (tOp (rI CDivG fun i j => .int (i.fdiv j)) (tVar 1) (tVar 3)) "own_top") (sFld Z.K (tVar 0) (tOp (rI CDivG fun i j => .int (i.fdiv j)) (tVar 2) (tVar 3)) "own_under")) { nx := fun _ H' => Q .non H', rt := Q } σ H1 := by
      rintro H1 σ rfl rfl
      have hG : CDivG t (lowG t u) := divG (b := 9000) (lowG_ne hu) (Nat.lt_of_le_of_lt (by rw [lowG_abs]; exact Int.gcd_le_natAbs_right _ hu) hb) (by decide) (Nat.le_refl _)
      refine ⟨_, rfl, _, rfl, _, _, rfl, rfl, hG, _, rfl, p, C, dx, _, rfl, hp, T.cl, T.nT, (by show 0 < 1000; decide), ?_⟩
      refine ⟨_, rfl, _, rfl, _, _, rfl, rfl, hG, _, rfl, p, C, dx, _, rfl, upd_same, T.cl, T.nU, (by show 1 < 1000; decide), ?_⟩
      refine k _ (fun b hb => by rw [upd_ne hb, upd_ne hb]) ?_
      rw [upd_same]
      rfl
    refine ⟨_, rfl, _, _, rfl, rfl, _, rfl, ?_⟩
    by_cases h0 : u < 0
    · rw [decide_eq_true h0]
      refine iteT ?_
      refine ⟨_, rfl, _, rfl, ?_⟩
      refine fin _ _ rfl ?_
      unfold lowG
      rw [if_pos h0]
      rfl
    · rw [decide_eq_false h0]
      refine iteF ?_
      refine fin _ _ rfl ?_
      unfold lowG
      rw [if_neg h0]
      rfl
end
end Ps

/-! Shares: their operators, where nothing is raised. -/
namespace Ps
open PySem PySem.Spec PyProof.Rows PySem.W L2

theorem Same.upd {H : Hp} {p : Addr} {o : HO} (h : H p = none) : Same H (L2.upd H p o) := fun b u e => by
  rw [upd_ne (ne_of_none e h)]
  exact e
/-- Share(t, u): what its reading asks -/
theorem mk_sh {C : Addr} {H : Hp} {Q : VK} {E : XK} {t u : Int} (hu : u ≠ 0) (hb : u.natAbs < 2 ^ 9000) (k : ∀ v H', Same H H' → Sh C H' v (low t u) → Q v H') :
    ∀ x dx, H x = none → H dx = none → dx ≠ x → spShInit C [.ref x, .int t, .int u] (upd (upd H dx (.own x)) x (.ins C dx [])) (fun v H2 => v = .non ∧ Q (.ref x) H2) E := by
  intro x dx hx hdx hne
  refine ⟨x, dx, t, u, rfl, upd_same, hu, hb, fun H' h1 h2 => ⟨rfl, ?_⟩⟩
  refine k _ H' (fun b o e => ?_) ⟨x, dx, rfl, h2⟩
  rw [h1 b (ne_of_none e hx), upd_ne (ne_of_none e hx), upd_ne (ne_of_none e hdx)]
  exact e

/-- what the shares' defs promise one another -/
abbrev CShare (Z : Cz) (C : Addr) : Prop := CalC Z CX0 2 C "Share" ["self", "top", "under"] [] (spShInit C)
abbrev CShare1 (Z : Cz) (C : Addr) : Prop := CalC Z CX0 2 C "Share" ["self", "top", "under"] [.int 1] (spShInit C)
/-- from a number a share -/
def spNum (C : Addr) : Sp := fun vs H Q _ => ∃ v q, vs = [v] ∧ Nb C H v q ∧ ∀ v' H', Same H H' → Sh C H' v' q → Q v' H'
abbrev CNum (Z : Cz) (C : Addr) : Prop := Cal Z CX0 4 "share_of_number" ["value"] [] (spNum C)
/-- two numbers to a share -/
def spBin (C : Addr) (n : Nat) (g : Int × Int → Int × Int → Int × Int) : Sp := fun vs H Q _ => ∃ x y q r, vs = [x, y] ∧ Sh C H x q ∧ Nb C H y r ∧ Sz n q ∧ Sz n r ∧ ∀ v H', Same H H' → Sh C H' v (g q r) → Q v H'
def spUn (C : Addr) (n : Nat) (g : Int × Int → Int × Int) : Sp := fun vs H Q _ => ∃ x q, vs = [x] ∧ Sh C H x q ∧ Sz n q ∧ ∀ v H', Same H H' → Sh C H' v (g q) → Q v H'
def gAdd (q r : Int × Int) : Int × Int := low (q.1 * r.2 + r.1 * q.2) (q.2 * r.2)
def gMul (q r : Int × Int) : Int × Int := low (q.1 * r.1) (q.2 * r.2)
def gNeg (q : Int × Int) : Int × Int := low (-q.1) q.2
def gAbs (q : Int × Int) : Int × Int := low (iabs q.1) q.2

theorem lt_mul {i j : Int} (hi : i.natAbs < 2 ^ 4000) (hj : j.natAbs < 2 ^ 4000) : CMulW i j := wide_mul hi hj (by decide) (by decide) (by decide)
theorem mul_lt {i j : Int} (hi : i.natAbs < 2 ^ 4000) (hj : j.natAbs < 2 ^ 4000) : (i * j).natAbs < 2 ^ 9000 :=
  Nat.lt_of_lt_of_le (wide_lt hi hj) (Nat.pow_le_pow_right (by decide) (by decide))
theorem lt_up {i : Int} {m n : Nat} (h : i.natAbs < 2 ^ m) (hm : m ≤ n) : i.natAbs < 2 ^ n := Nat.lt_of_lt_of_le h (Nat.pow_le_pow_right (by decide) hm)

section
variable {Z : Cz} {f C : Addr} {fd : FuncData}
theorem ok_share_of_number (F : Fun Z.K "share_of_number" "share_of_number" s_share_of_number f fd) (T : ShT Z C) (c1 : Cal Z CX0 1 "is_integer" ["value"] [] (spIsInt Z.K)) (c2 : CShare1 Z C) : Z.ok CX0 4 f fd ["value"] (spNum C) := by
  refine F.ok sc_share_of_number (fun vs H Q E h => ?_) (fun cdv A outer s H vs Q E hr h => ?_)
  · obtain ⟨v, q, rfl, _⟩ := h
    rfl
  · obtain ⟨v, q, rfl, hv, k⟩ := h
    refine ⟨_, pss_cons (ps_if (pt_val (pe_callB call_isi (by rfl) T.isi (by decide +kernel) (pa_cons (pv 0) (pa_cons (pe_glob (v := .ref C) rfl T.mgC rfl) pa_nil)))) (pss_one (ps_ret (pv 0))) pss_nil)
      (pss_cons (ps_if (pt_not (pt_val (pe_cal c1 (hr.mono (by decide)) (by rfl) pass0 (pa_cons (pv 0) pa_nil)))) (pss_one ps_never) pss_nil)
      (pss_one (ps_ret (pe_calC c2 hr (by rfl) pass0 (pa_cons (pv 0) pa_nil))))), ?_⟩
    rcases hv with hv | ⟨i, rfl, rfl⟩
    · obtain ⟨a, dx, rfl, ha⟩ := id hv
      refine ⟨_, rfl, _, _, _, _, true, rfl, .own C, T.ty ha, T.kCC, _, rfl, iteT ?_⟩
      exact ⟨_, rfl, k _ _ (Same.refl _) hv⟩
    · refine ⟨_, rfl, _, _, _, _, false, rfl, .own C, .base (.int _), T.kIC, _, rfl, iteF ?_⟩
      refine ⟨_, rfl, _, _, rfl, .base (.int _), .inl ⟨rfl, _, rfl, iteF ?_⟩⟩
      refine ⟨_, rfl, mk_sh (by decide) (by decide +kernel) fun v' H' e z => k _ _ e ?_⟩
      rw [low_one] at z
      exact z

theorem ok_neg (F : Fun Z.K "__neg__" "Share.__neg__" s_Share_dd_neg f fd) (T : ShT Z C) (c2 : CShare Z C) : Z.ok CX0 4 f fd ["self"] (spUn C 9000 gNeg) := by
  refine F.ok sc_Share_dd_neg (fun vs H Q E h => ?_) (fun cdv A outer s H vs Q E hr h => ?_)
  · obtain ⟨v, q, rfl, _⟩ := h
    rfl
  · obtain ⟨x, q, rfl, ⟨a, dx, rfl, ha⟩, hq, k⟩ := h
    refine ⟨_, pss_one (ps_ret (pe_calC c2 hr (by rfl) pass0 (pa_cons (pe_un un_neg (pe_fld (pv 0) rfl)) (pa_cons (pe_fld (pv 0) rfl) pa_nil)))), ?_⟩
    refine ⟨_, rfl, a, C, dx, _, _, rfl, ha, T.cl, T.nT, shF_top _ _, _, rfl, _, rfl, a, C, dx, _, _, rfl, ha, T.cl, T.nU, shF_under _ _, ?_⟩
    exact mk_sh hq.ne hq.u k
theorem ok_abs (F : Fun Z.K "__abs__" "Share.__abs__" s_Share_dd_abs f fd) (T : ShT Z C) (c2 : CShare Z C) : Z.ok CX0 4 f fd ["self"] (spUn C 9000 gAbs) := by
  refine F.ok sc_Share_dd_abs (fun vs H Q E h => ?_) (fun cdv A outer s H vs Q E hr h => ?_)
  · obtain ⟨v, q, rfl, _⟩ := h
    rfl
  · obtain ⟨x, q, rfl, ⟨a, dx, rfl, ha⟩, hq, k⟩ := h
    refine ⟨_, pss_one (ps_ret (pe_calC c2 hr (by rfl) pass0 (pa_cons (pe_callB call_abs (by rfl) T.abs (by decide +kernel) (pa_cons (pe_fld (pv 0) rfl) pa_nil)) (pa_cons (pe_fld (pv 0) rfl) pa_nil)))), ?_⟩
    refine ⟨_, rfl, a, C, dx, _, _, rfl, ha, T.cl, T.nT, shF_top _ _, _, rfl, _, rfl, a, C, dx, _, _, rfl, ha, T.cl, T.nU, shF_under _ _, ?_⟩
    exact mk_sh hq.ne hq.u k
theorem ok_add (F : Fun Z.K "__add__" "Share.__add__" s_Share_dd_add f fd) (T : ShT Z C) (c1 : CNum Z C) (c2 : CShare Z C) : Z.ok CX0 5 f fd ["self", "other"] (spBin C 4000 gAdd) := by
  refine F.ok sc_Share_dd_add (fun vs H Q E h => ?_) (fun cdv A outer s H vs Q E hr h => ?_)
  · obtain ⟨x, y, q, r, rfl, _⟩ := h
    rfl
  · obtain ⟨x, y, q, r, rfl, hx, hy, hq, hr', k⟩ := h
    refine ⟨_, pss_cons (ps_set (i := 1) sc_Share_dd_add.nd rfl (Or.inl rfl) (pe_cal c1 hr (by rfl) pass0 (pa_cons (pv 1) pa_nil)))
      (pss_one (ps_ret (pe_calC c2 (hr.mono (by decide)) (by rfl) pass0 (pa_cons (pe_op op_add (pe_op op_mulW (pe_fld (pv 0) rfl) (pe_fld (pv 1) rfl)) (pe_op op_mulW (pe_fld (pv 1) rfl) (pe_fld (pv 0) rfl))) (pa_cons (pe_op op_mulW (pe_fld (pv 0) rfl) (pe_fld (pv 1) rfl)) pa_nil))))), ?_⟩
    refine ⟨_, rfl, _, r, rfl, hy, fun y' H1 e1 hy' => ?_⟩
    obtain ⟨a, dx, rfl, ha⟩ := hx.mono e1
    obtain ⟨b, dy, rfl, hb⟩ := id hy'
    refine ⟨_, rfl, a, C, dx, _, _, rfl, ha, T.cl, T.nT, shF_top _ _, _, rfl, b, C, dy, _, _, rfl, hb, T.cl, T.nU, shF_under _ _, _, _, rfl, rfl, lt_mul hq.t hr'.u, ?_⟩
    refine ⟨_, rfl, b, C, dy, _, _, rfl, hb, T.cl, T.nT, shF_top _ _, _, rfl, a, C, dx, _, _, rfl, ha, T.cl, T.nU, shF_under _ _, _, _, rfl, rfl, lt_mul hr'.t hq.u, _, _, rfl, rfl, ?_⟩
    refine ⟨_, rfl, a, C, dx, _, _, rfl, ha, T.cl, T.nU, shF_under _ _, _, rfl, b, C, dy, _, _, rfl, hb, T.cl, T.nU, shF_under _ _, _, _, rfl, rfl, lt_mul hq.u hr'.u, ?_⟩
    exact mk_sh (Int.mul_ne_zero hq.ne hr'.ne) (mul_lt hq.u hr'.u) fun v H' e z => k _ _ (e1.trans e) z
theorem ok_mul (F : Fun Z.K "__mul__" "Share.__mul__" s_Share_dd_mul f fd) (T : ShT Z C) (c1 : CNum Z C) (c2 : CShare Z C) : Z.ok CX0 5 f fd ["self", "other"] (spBin C 4000 gMul) := by
  refine F.ok sc_Share_dd_mul (fun vs H Q E h => ?_) (fun cdv A outer s H vs Q E hr h => ?_)
  · obtain ⟨x, y, q, r, rfl, _⟩ := h
    rfl
  · obtain ⟨x, y, q, r, rfl, hx, hy, hq, hr', k⟩ := h
    refine ⟨_, pss_cons (ps_set (i := 1) sc_Share_dd_mul.nd rfl (Or.inl rfl) (pe_cal c1 hr (by rfl) pass0 (pa_cons (pv 1) pa_nil)))
      (pss_one (ps_ret (pe_calC c2 (hr.mono (by decide)) (by rfl) pass0 (pa_cons (pe_op op_mulW (pe_fld (pv 0) rfl) (pe_fld (pv 1) rfl)) (pa_cons (pe_op op_mulW (pe_fld (pv 0) rfl) (pe_fld (pv 1) rfl)) pa_nil))))), ?_⟩
    refine ⟨_, rfl, _, r, rfl, hy, fun y' H1 e1 hy' => ?_⟩
    obtain ⟨a, dx, rfl, ha⟩ := hx.mono e1
    obtain ⟨b, dy, rfl, hb⟩ := id hy'
    refine ⟨_, rfl, a, C, dx, _, _, rfl, ha, T.cl, T.nT, shF_top _ _, _, rfl, b, C, dy, _, _, rfl, hb, T.cl, T.nT, shF_top _ _, _, _, rfl, rfl, lt_mul hq.t hr'.t, ?_⟩
    refine ⟨_, rfl, a, C, dx, _, _, rfl, ha, T.cl, T.nU, shF_under _ _, _, rfl, b, C, dy, _, _, rfl, hb, T.cl, T.nU, shF_under _ _, _, _, rfl, rfl, lt_mul hq.u hr'.u, ?_⟩
    exact mk_sh (Int.mul_ne_zero hq.ne hr'.ne) (mul_lt hq.u hr'.u) fun v H' e z => k _ _ (e1.trans e) z

def gSub (q r : Int × Int) : Int × Int := gAdd q (gNeg r)
def gBy (q r : Int × Int) : Int × Int := low (q.1 * r.2) (q.2 * r.1)
theorem Sz.neg {n : Nat} {q : Int × Int} (h : Sz n q) : Sz n (gNeg q) := by
  refine ⟨Int.ne_of_gt (low_pos h.ne), Nat.lt_of_le_of_lt (low_le1 h.ne) ?_, Nat.lt_of_le_of_lt (low_le2 h.ne) h.u⟩
  rw [Int.natAbs_neg]
  exact h.t
theorem Sz.up {m n : Nat} {q : Int × Int} (h : Sz m q) (hm : m ≤ n) : Sz n q := ⟨h.ne, lt_up h.t hm, lt_up h.u hm⟩
abbrev CAdd (Z : Cz) (C : Addr) : Prop := CalS Z CX0 5 C "__add__" ["self", "other"] (spBin C 4000 gAdd)
abbrev CMul (Z : Cz) (C : Addr) : Prop := CalS Z CX0 5 C "__mul__" ["self", "other"] (spBin C 4000 gMul)
abbrev CNeg (Z : Cz) (C : Addr) : Prop := CalS Z CX0 4 C "__neg__" ["self"] (spUn C 9000 gNeg)
theorem ok_radd (F : Fun Z.K "__radd__" "Share.__radd__" s_Share_dd_radd f fd) (T : ShT Z C) (c1 : CAdd Z C) (N : NumF Z.K C "add") : Z.ok CX0 6 f fd ["self", "other"] (spBin C 4000 gAdd) := by
  refine F.ok sc_Share_dd_radd (fun vs H Q E h => ?_) (fun cdv A outer s H vs Q E hr h => ?_)
  · obtain ⟨x, y, q, r, rfl, _⟩ := h
    rfl
  · obtain ⟨x, y, q, r, rfl, hx, hy, hq, hr', k⟩ := h
    refine ⟨_, pss_one (ps_ret (pe_op (op_num (op := .Add) c1 N hr pass0) (pv 0) (pv 1))), ?_⟩
    exact ⟨_, rfl, _, rfl, hx.ins, hy.num, _, _, _, _, rfl, hx, hy, hq, hr', k⟩
theorem ok_rmul (F : Fun Z.K "__rmul__" "Share.__rmul__" s_Share_dd_rmul f fd) (T : ShT Z C) (c1 : CMul Z C) (N : NumF Z.K C "mul") : Z.ok CX0 6 f fd ["self", "other"] (spBin C 4000 gMul) := by
  refine F.ok sc_Share_dd_rmul (fun vs H Q E h => ?_) (fun cdv A outer s H vs Q E hr h => ?_)
  · obtain ⟨x, y, q, r, rfl, _⟩ := h
    rfl
  · obtain ⟨x, y, q, r, rfl, hx, hy, hq, hr', k⟩ := h
    refine ⟨_, pss_one (ps_ret (pe_op (op_num (op := .Mult) c1 N hr pass0) (pv 0) (pv 1))), ?_⟩
    exact ⟨_, rfl, _, rfl, hx.ins, hy.num, _, _, _, _, rfl, hx, hy, hq, hr', k⟩
theorem ok_sub (F : Fun Z.K "__sub__" "Share.__sub__" s_Share_dd_sub f fd) (T : ShT Z C) (c1 : CAdd Z C) (c2 : CNum Z C) (c3 : CNeg Z C) (N : NumF Z.K C "add") : Z.ok CX0 6 f fd ["self", "other"] (spBin C 4000 gSub) := by
  refine F.ok sc_Share_dd_sub (fun vs H Q E h => ?_) (fun cdv A outer s H vs Q E hr h => ?_)
  · obtain ⟨x, y, q, r, rfl, _⟩ := h
    rfl
  · obtain ⟨x, y, q, r, rfl, hx, hy, hq, hr', k⟩ := h
    refine ⟨_, pss_one (ps_ret (pe_op (op_num (op := .Add) c1 N hr pass0) (pv 0) (pe_un (un_cal c3 (hr.mono (by decide)) pass0) (pe_cal c2 (hr.mono (by decide)) (by rfl) pass0 (pa_cons (pv 1) pa_nil))))), ?_⟩
    refine ⟨_, rfl, _, rfl, _, r, rfl, hy, fun y' H1 e1 hy' => ⟨hy'.ins, _, _, rfl, hy', hr'.up (by decide), fun y2 H2 e2 hy2 => ?_⟩⟩
    exact ⟨((hx.mono e1).mono e2).ins, .inl hy2.ins, _, _, _, _, rfl, (hx.mono e1).mono e2, .inl hy2, hq, hr'.neg, fun v H' e z => k _ _ ((e1.trans e2).trans e) z⟩
theorem ok_rsub (F : Fun Z.K "__rsub__" "Share.__rsub__" s_Share_dd_rsub f fd) (T : ShT Z C) (c1 : CAdd Z C) (c2 : CNum Z C) (c3 : CNeg Z C) (N : NumF Z.K C "add") : Z.ok CX0 6 f fd ["self", "other"] (spBin C 4000 fun q r => gSub r q) := by
  refine F.ok sc_Share_dd_rsub (fun vs H Q E h => ?_) (fun cdv A outer s H vs Q E hr h => ?_)
  · obtain ⟨x, y, q, r, rfl, _⟩ := h
    rfl
  · obtain ⟨x, y, q, r, rfl, hx, hy, hq, hr', k⟩ := h
    refine ⟨_, pss_one (ps_ret (pe_op (op_num (op := .Add) c1 N hr pass0) (pe_cal c2 (hr.mono (by decide)) (by rfl) pass0 (pa_cons (pv 1) pa_nil)) (pe_un (un_cal c3 (hr.mono (by decide)) pass0) (pv 0)))), ?_⟩
    refine ⟨_, rfl, _, r, rfl, hy, fun y' H1 e1 hy' => ⟨_, rfl, (hx.mono e1).ins, _, _, rfl, hx.mono e1, hq.up (by decide), fun x2 H2 e2 hx2 => ?_⟩⟩
    exact ⟨(hy'.mono e2).ins, .inl hx2.ins, _, _, _, _, rfl, hy'.mono e2, .inl hx2, hr', hq.neg, fun v H' e z => k _ _ ((e1.trans e2).trans e) z⟩
/-- by: the other is not 0 -/
def spBy (C : Addr) : Sp := fun vs H Q _ => ∃ x y q r, vs = [x, y] ∧ Sh C H x q ∧ Nb C H y r ∧ Sz 4000 q ∧ Sz 4000 r ∧ r.1 ≠ 0 ∧ ∀ v H', Same H H' → Sh C H' v (gBy q r) → Q v H'
theorem ok_by (F : Fun Z.K "by" "Share.by" s_Share_by f fd) (T : ShT Z C) (c1 : CNum Z C) (c2 : CShare Z C) : Z.ok CX0 5 f fd ["self", "other"] (spBy C) := by
  refine F.ok sc_Share_by (fun vs H Q E h => ?_) (fun cdv A outer s H vs Q E hr h => ?_)
  · obtain ⟨x, y, q, r, rfl, _⟩ := h
    rfl
  · obtain ⟨x, y, q, r, rfl, hx, hy, hq, hr', hn, k⟩ := h
    refine ⟨_, pss_cons (ps_set (i := 1) sc_Share_by.nd rfl (Or.inl rfl) (pe_cal c1 hr (by rfl) pass0 (pa_cons (pv 1) pa_nil)))
      (pss_cons (ps_if (pt_cmpR op_eq (pe_fld (pv 1) rfl) pe_int (nomark _)) (pss_one ps_never) pss_nil)
      (pss_one (ps_ret (pe_calC c2 (hr.mono (by decide)) (by rfl) pass0 (pa_cons (pe_op op_mulW (pe_fld (pv 0) rfl) (pe_fld (pv 1) rfl)) (pa_cons (pe_op op_mulW (pe_fld (pv 0) rfl) (pe_fld (pv 1) rfl)) pa_nil)))))), ?_⟩
    refine ⟨_, rfl, _, r, rfl, hy, fun y' H1 e1 hy' => ?_⟩
    obtain ⟨a, dx, rfl, ha⟩ := hx.mono e1
    obtain ⟨b, dy, rfl, hb⟩ := id hy'
    refine ⟨_, rfl, b, C, dy, _, _, rfl, hb, T.cl, T.nT, shF_top _ _, rfl, _, rfl, ?_⟩
    rw [decide_eq_false (show ¬ V.int r.1 = V.int 0 from fun z => hn (V.int.inj z))]
    refine iteF ?_
    refine ⟨_, rfl, a, C, dx, _, _, rfl, ha, T.cl, T.nT, shF_top _ _, _, rfl, b, C, dy, _, _, rfl, hb, T.cl, T.nU, shF_under _ _, _, _, rfl, rfl, lt_mul hq.t hr'.u, ?_⟩
    refine ⟨_, rfl, a, C, dx, _, _, rfl, ha, T.cl, T.nU, shF_under _ _, _, rfl, b, C, dy, _, _, rfl, hb, T.cl, T.nT, shF_top _ _, _, _, rfl, rfl, lt_mul hq.u hr'.t, ?_⟩
    exact mk_sh (Int.mul_ne_zero hq.ne hn) (mul_lt hq.u hr'.t) fun v H' e z => k _ _ (e1.trans e) z
/-- a field, or what is reckoned of a share -/
def spGet (C : Addr) (n : Nat) (g : Int × Int → V) : Sp := fun vs H Q _ => ∃ x q, vs = [x] ∧ Sh C H x q ∧ Sz n q ∧ Q (g q) H
theorem ok_top (F : Fun Z.K "top" "Share.top" s_Share_top f fd) (T : ShT Z C) : Z.ok CX0 1 f fd ["self"] (spGet C 9000 fun q => .int q.1) := by
  refine F.ok sc_Share_top (fun vs H Q E h => ?_) (fun cdv A outer s H vs Q E hr h => ?_)
  · obtain ⟨x, q, rfl, _⟩ := h
    rfl
  · obtain ⟨x, q, rfl, ⟨a, dx, rfl, ha⟩, hq, k⟩ := h
    exact ⟨_, pss_one (ps_ret (pe_fld (pv 0) rfl)), _, rfl, a, C, dx, _, _, rfl, ha, T.cl, T.nT, shF_top _ _, k⟩
theorem ok_under (F : Fun Z.K "under" "Share.under" s_Share_under f fd) (T : ShT Z C) : Z.ok CX0 1 f fd ["self"] (spGet C 9000 fun q => .int q.2) := by
  refine F.ok sc_Share_under (fun vs H Q E h => ?_) (fun cdv A outer s H vs Q E hr h => ?_)
  · obtain ⟨x, q, rfl, _⟩ := h
    rfl
  · obtain ⟨x, q, rfl, ⟨a, dx, rfl, ha⟩, hq, k⟩ := h
    exact ⟨_, pss_one (ps_ret (pe_fld (pv 0) rfl)), _, rfl, a, C, dx, _, _, rfl, ha, T.cl, T.nU, shF_under _ _, k⟩
theorem ok_floor (F : Fun Z.K "floor" "Share.floor" s_Share_floor f fd) (T : ShT Z C) : Z.ok CX0 1 f fd ["self"] (spGet C 9000 fun q => .int (q.1.fdiv q.2)) := by
  refine F.ok sc_Share_floor (fun vs H Q E h => ?_) (fun cdv A outer s H vs Q E hr h => ?_)
  · obtain ⟨x, q, rfl, _⟩ := h
    rfl
  · obtain ⟨x, q, rfl, ⟨a, dx, rfl, ha⟩, hq, k⟩ := h
    exact ⟨_, pss_one (ps_ret (pe_op op_fdivG (pe_fld (pv 0) rfl) (pe_fld (pv 0) rfl))), _, rfl, a, C, dx, _, _, rfl, ha, T.cl, T.nT, shF_top _ _, _, rfl, a, C, dx, _, _, rfl, ha, T.cl, T.nU, shF_under _ _, _, _, rfl, rfl, divG hq.ne hq.u (by decide) (by decide), k⟩
end
end Ps

/-! The law's own draws: numbers within bounds. -/
namespace Ps
open PySem PySem.Spec PyProof.Rows PySem.W L2

/-- built-in names that the law uses -/
structure DrT (Z : Cz) : Prop where
  int : Z.mg "int" = none
  len : Z.mg "len" = none
  range : Z.mg "range" = none
  max : Z.mg "max" = none
  min : Z.mg "min" = none
def Below (ms ns : List Int) : Prop := ms.length = ns.length ∧ ∀ (i : Nat) (m n : Int), ms[i]? = some m → ns[i]? = some n → 0 ≤ m ∧ m < n
theorem Below.nil : Below [] [] := ⟨rfl, fun i m n h _ => by simp at h⟩
theorem Below.snoc {ms ns : List Int} {m n : Int} (h : Below ms ns) (h0 : 0 ≤ m) (h1 : m < n) : Below (ms ++ [m]) (ns ++ [n]) := by
  refine ⟨by rw [List.length_append, List.length_append, h.1]; rfl, fun i a b ha hb => ?_⟩
  by_cases hi : i < ms.length
  · rw [List.getElem?_append_left hi] at ha
    rw [List.getElem?_append_left (by rw [← h.1]; exact hi)] at hb
    exact h.2 i a b ha hb
  · rw [List.getElem?_append_right (by omega)] at ha
    rw [List.getElem?_append_right (by rw [← h.1]; omega)] at hb
    rw [← h.1] at hb
    cases e : i - ms.length with
    | zero =>
      rw [e] at ha hb
      simp at ha hb
      subst ha; subst hb
      exact ⟨h0, h1⟩
    | succ j =>
      rw [e] at ha
      simp at ha
theorem take_snoc {ns : List Int} {i : Nat} {n : Int} (h : ns[i]? = some n) : ns.take (i + 1) = ns.take i ++ [n] := by
  rw [List.take_succ, h]
  rfl
/-- sizes that may be drawn by -/
structure Sizes (ns : List Int) : Prop where
  len : ns.length ≤ 10000
  pos : ∀ n ∈ ns, 0 < n ∧ n < 1073741824
def spNumbers (K : Frag) : Sp := fun vs H Q _ => ∃ (c s : Int) (a : Addr) (ns : List Int), vs = [.int c, .int s, .ref a] ∧ SqL K H a (ns.map V.int) ∧ Sizes ns ∧ 0 ≤ s ∧ s ≤ 1000 ∧
  ∀ p H' ms, Same H H' → H p = none → H' p = some (.lst (ms.map V.int)) → Below ms ns → Q (.ref p) H'
theorem small1000' {n : Nat} (h : n ≤ 100000) : n < sizeLine := Nat.lt_of_le_of_lt h (by decide)
theorem pow_ok {i j : Int} (h0 : 0 ≤ j) (h1 : j ≤ 1000000) (h2 : i.natAbs < 2 ^ 64) : L2.CPow i j := ⟨h0, h1, h2⟩
section
variable {Z : Cz} {f : Addr} {fd : FuncData}
theorem ok_numbers (F : Fun Z.K "_law_numbers" "_law_numbers" s_lw_numbers f fd) (T : DrT Z) : Z.ok CX0 1 f fd ["_law_cell", "_law_salt", "_law_sizes"] (spNumbers Z.K) := by
  refine F.ok sc_lw_numbers (fun vs H Q E h => ?_) (fun cdv A outer s H vs Q E hr h => ?_)
  · obtain ⟨c, s, a, ns, rfl, _⟩ := h
    rfl
  · obtain ⟨c, sa, a, ns, rfl, hS, hz, hs0, hs1, k⟩ := h
    have nd := sc_lw_numbers.nd
    refine ⟨_, (pss_cons (ps_set (i := 3) sc_lw_numbers.nd rfl (Or.inl rfl) (pe_callB (call_max2 rfl) (by rfl) T.max (by decide +kernel) (pa_cons (pe_int1 (by rfl) T.int (pv 0)) (pa_cons (pe_int1 (by rfl) T.int (pe_op op_sub (pe_un un_neg pe_int) (pv 0))) pa_nil))))
      (pss_cons (ps_set (i := 4) sc_lw_numbers.nd rfl (Or.inl rfl) (pv 3))
      (pss_cons (ps_set (i := 5) sc_lw_numbers.nd rfl (Or.inl rfl) (pe_lst pa_nil))
      (pss_cons (ps_for PassesOwn.never rfl (pi_range1 (by rfl) T.range (pa_cons (pe_callB call_len_seq (by rfl) T.len PySem.boot_len (pa_cons (pv 2) pa_nil)) pa_nil)) (pg_name (i := 6) sc_lw_numbers.nd rfl (Or.inl rfl))
      (pss_one (ps_if (PW.pt (pw_and (pt_cmpR op_ge (pv 3) (pe_op op_pow pe_int pe_int) (nomark _)) (pw_and1 (pt_cmpR op_gt (pv 4) pe_int (nomark _)))))
        (pss_cons (ps_expr (pe_bm PySem.F.plainAttrs_list PySem.F.slot_list_append PySem.F.type_list_append mt_append (pv 5) (pa_cons (pe_op op_mod (pe_int1 (by rfl) T.int (pv 4)) (pe_ix ix_list (pv 2) (pv 6) (fun _ _ => rfl))) pa_nil)))
          (pss_one (ps_set (i := 4) sc_lw_numbers.nd rfl (Or.inl rfl) (pe_op op_fdiv (pv 4) (pe_ix ix_list (pv 2) (pv 6) (fun _ _ => rfl))))))
        (pss_cons (ps_set (i := 7) sc_lw_numbers.nd rfl (Or.inl rfl) (pe_op op_pow (pe_op op_add (pe_op op_add (pe_op op_mod (pe_int1 (by rfl) T.int (pv 3)) pe_int) (pe_op op_mul pe_int (pv 1))) pe_int) pe_int))
          (pss_cons (ps_set (i := 7) sc_lw_numbers.nd rfl (Or.inl rfl) (pe_op op_mul (pe_op op_add (pe_op op_mod (pe_int1 (by rfl) T.int (pv 7)) pe_int) (pe_op op_mul pe_int (pe_op op_add (pv 6) pe_int))) (pe_op op_add (pv 6) pe_int)))
          (pss_cons (ps_set (i := 7) sc_lw_numbers.nd rfl (Or.inl rfl) (pe_op op_mod (pe_int1 (by rfl) T.int (pv 7)) pe_int))
          (pss_cons (ps_set (i := 7) sc_lw_numbers.nd rfl (Or.inl rfl) (pe_op op_mul (pe_op op_mod (pe_int1 (by rfl) T.int (pe_op op_pow (pv 7) pe_int)) pe_int) pe_int))
          (pss_cons (ps_set (i := 7) sc_lw_numbers.nd rfl (Or.inl rfl) (pe_op op_mod (pe_int1 (by rfl) T.int (pv 7)) pe_int))
          (pss_one (ps_expr (pe_bm PySem.F.plainAttrs_list PySem.F.slot_list_append PySem.F.type_list_append mt_append (pv 5) (pa_cons (pe_op op_mod (pe_int1 (by rfl) T.int (pe_op op_fdiv (pv 7) pe_int)) (pe_ix ix_list (pv 2) (pv 6) (fun _ _ => rfl))) pa_nil))))))))))))
      (pss_one (ps_ret (pv 5))))))), ?_⟩
    refine ⟨_, rfl, _, rfl, _, rfl, _, rfl, _, _, rfl, rfl, _, rfl, _, _, rfl, ?_⟩
    generalize (if (-1 - c : Int) > c then (-1 - c : Int) else c) = wh
    refine ⟨_, rfl, ?_⟩
    refine ⟨by decide, fun p hp => ?_⟩
    have e0 : Same H (upd H p (.lst [])) := fun b o e => by rw [upd_ne (ne_of_none e hp)]; exact e
    have hln : (ns.map V.int).length = ns.length := List.length_map ..
    have hl := hz.len
    refine ⟨_, rfl, a, _, rfl, .inl (e0.seq hS), _, rfl, by omega, by omega, for_range (lo := 0) (fun i σ H1 => ∃ (l : Int) (ms : List Int) (o k : Option V), σ = [some (.int c), some (.int sa), some (.ref a), some (.int wh), some (.int l), some (.ref p), k, o] ∧ Same H H1 ∧ H1 p = some (.lst (ms.map V.int)) ∧ Below ms (ns.take i))
      ⟨wh, [], none, none, rfl, e0, upd_same, Below.nil⟩ ?_ ?_⟩
    · rintro i σ H1 hi ⟨l, ms, o, k', rfl, e1, h1, hb⟩
      have hi' : i < ns.length := by omega
      obtain ⟨n, hn⟩ : ∃ n, ns[i]? = some n := ⟨ns[i], List.getElem?_eq_getElem hi'⟩
      have hnp := hz.pos n (List.mem_of_getElem? hn)
      have hat : atI (ns.map V.int) (0 + (i : Int)) = some (.int n) := by
        rw [Int.zero_add]
        exact atI_nat (by rw [List.getElem?_map, hn]; rfl)
      have hml : ms.length ≤ 10000 := by
        rw [hb.1, List.length_take]; omega
      have fin : ∀ (m l' : Int) (o' k2 : Option V), 0 ≤ m → m < n → ∃ (l : Int) (ms' : List Int) (o k : Option V), [some (V.int c), some (.int sa), some (.ref a), some (.int wh), some (.int l'), some (.ref p), k2, o'] = [some (.int c), some (.int sa), some (.ref a), some (.int wh), some (.int l), some (.ref p), k, o] ∧
          Same H (upd H1 p (.lst (ms.map V.int ++ [.int m]))) ∧ (upd H1 p (.lst (ms.map V.int ++ [.int m]))) p = some (.lst (ms'.map V.int)) ∧ Below ms' (ns.take (i + 1)) := by
        intro m l' o' k2 h0 h2
        refine ⟨l', ms ++ [m], o', k2, rfl, fun b o e => ?_, ?_, ?_⟩
        · rw [upd_ne (ne_of_none e hp)]
          exact e1 b o e
        · rw [upd_same, List.map_append]
          rfl
        · rw [take_snoc hn]
          exact hb.snoc h0 h2
      have hml' : (ms.map V.int).length < sizeLine := by rw [List.length_map]; exact small1000' (by omega)
      have hS1 := e1.seq hS
      have hm2 : ∀ z : Int, 0 ≤ z % n ∧ z % n < n := fun z => ⟨Int.emod_nonneg _ (by omega), Int.emod_lt_of_pos _ hnp.1⟩
      refine ⟨_, rfl, _, _, rfl, rfl, pow_ok (by decide) (by decide) (by decide), _, _, rfl, rfl, _, rfl, iteD (fun _ => ?_) (fun _ => ?_)⟩
      · refine ⟨_, rfl, _, _, rfl, rfl, _, rfl, iteD (fun _ => ?_) (fun _ => ?_)⟩
        · refine ⟨_, rfl, .inl ⟨rfl, _, SqL.of h1⟩, _, rfl, _, rfl, _, rfl, _, rfl, a, _, _, _, rfl, rfl, hS1, hat, _, _, rfl, rfl, hnp.1, p, _, _, rfl, rfl, h1, hml', ?_⟩
          have hS2 : SqL Z.K (upd H1 p (.lst (ms.map V.int ++ [.int (l % n)]))) a (ns.map V.int) := by
            obtain ⟨_, _, _, _, _, e2, _, _⟩ := fin (l % n) l o none (hm2 l).1 (hm2 l).2
            exact e2.seq hS
          refine ⟨_, rfl, _, rfl, _, rfl, a, _, _, _, rfl, rfl, hS2, hat, _, _, rfl, rfl, ⟨hnp.1, hnp.2⟩, ?_⟩
          exact fin _ _ _ _ (hm2 l).1 (hm2 l).2
        · refine ⟨_, rfl, _, rfl, _, _, rfl, rfl, (by show (0 : Int) < 2147483629; decide), _, rfl, _, _, rfl, rfl, .inl ⟨by decide, by decide⟩, _, _, rfl, rfl, _, _, rfl, rfl, _, _, rfl, rfl, pow_ok (by decide) (by decide) (by omega), ?_⟩
          refine ⟨_, rfl, _, rfl, _, _, rfl, rfl, (by show (0 : Int) < 2147483647; decide), _, rfl, _, _, rfl, rfl, _, _, rfl, rfl, .inl ⟨by decide, by decide⟩, _, _, rfl, rfl, _, rfl, _, _, rfl, rfl, _, _, rfl, rfl, .inr ⟨by omega, by omega⟩, ?_⟩
          refine ⟨_, rfl, _, rfl, _, _, rfl, rfl, (by show (0 : Int) < 2147483629; decide), ?_⟩
          refine ⟨_, rfl, _, _, rfl, rfl, pow_ok (by decide) (by decide) (by omega), _, rfl, _, _, rfl, rfl, (by show (0 : Int) < 2147483647; decide), _, _, rfl, rfl, .inr ⟨by decide, by decide⟩, ?_⟩
          refine ⟨_, rfl, _, rfl, _, _, rfl, rfl, (by show (0 : Int) < 2147483629; decide), ?_⟩
          refine ⟨_, rfl, .inl ⟨rfl, _, SqL.of h1⟩, _, rfl, _, _, rfl, rfl, ⟨by decide, by decide⟩, _, rfl, _, rfl, _, rfl, a, _, _, _, rfl, rfl, hS1, hat, _, _, rfl, rfl, hnp.1, p, _, _, rfl, rfl, h1, hml', ?_⟩
          exact fin _ _ _ _ (hm2 _).1 (hm2 _).2
      · refine ⟨_, rfl, _, rfl, _, _, rfl, rfl, (by show (0 : Int) < 2147483629; decide), _, rfl, _, _, rfl, rfl, .inl ⟨by decide, by decide⟩, _, _, rfl, rfl, _, _, rfl, rfl, _, _, rfl, rfl, pow_ok (by decide) (by decide) (by omega), ?_⟩
        refine ⟨_, rfl, _, rfl, _, _, rfl, rfl, (by show (0 : Int) < 2147483647; decide), _, rfl, _, _, rfl, rfl, _, _, rfl, rfl, .inl ⟨by decide, by decide⟩, _, _, rfl, rfl, _, rfl, _, _, rfl, rfl, _, _, rfl, rfl, .inr ⟨by omega, by omega⟩, ?_⟩
        refine ⟨_, rfl, _, rfl, _, _, rfl, rfl, (by show (0 : Int) < 2147483629; decide), ?_⟩
        refine ⟨_, rfl, _, _, rfl, rfl, pow_ok (by decide) (by decide) (by omega), _, rfl, _, _, rfl, rfl, (by show (0 : Int) < 2147483647; decide), _, _, rfl, rfl, .inr ⟨by decide, by decide⟩, ?_⟩
        refine ⟨_, rfl, _, rfl, _, _, rfl, rfl, (by show (0 : Int) < 2147483629; decide), ?_⟩
        refine ⟨_, rfl, .inl ⟨rfl, _, SqL.of h1⟩, _, rfl, _, _, rfl, rfl, ⟨by decide, by decide⟩, _, rfl, _, rfl, _, rfl, a, _, _, _, rfl, rfl, hS1, hat, _, _, rfl, rfl, hnp.1, p, _, _, rfl, rfl, h1, hml', ?_⟩
        exact fin _ _ _ _ (hm2 _).1 (hm2 _).2
    · rintro σ H1 ⟨l, ms, o, k', rfl, e1, h1, hb⟩
      refine ⟨_, rfl, k p H1 ms e1 hp h1 ?_⟩
      rw [hln, Int.toNat_natCast, List.take_length] at hb
      exact hb
/-- a pool at p: its numbers at q, the place of the next one -/
structure Pool (H : Hp) (p q : Addr) (ms : List Int) (i : Nat) : Prop where
  at_ : H p = some (.lst [.ref q, .int i])
  nums : H q = some (.lst (ms.map V.int))
  len : ms.length ≤ 10000
  few : i ≤ 100000
theorem Pool.ne {H : Hp} {p q : Addr} {ms : List Int} {i : Nat} (h : Pool H p q ms i) : p ≠ q := ne_of h.at_ h.nums (by
  intro z
  have z := HO.lst.inj z
  cases ms with
  | nil => cases z
  | cons m r =>
    rw [List.map_cons] at z
    cases (List.cons.inj z).1)
theorem rep420 (k : Nat) : (List.replicate k [V.int 420]).flatten = (List.replicate k (420 : Int)).map V.int := by
  induction k with
  | zero => rfl
  | succ k ih => rw [List.replicate_succ, List.flatten_cons, ih, List.replicate_succ]; rfl
def spPool : Sp := fun vs H Q _ => ∃ (c s n : Int), vs = [.int c, .int s, .int n] ∧ 0 ≤ s ∧ s ≤ 1000 ∧ 0 ≤ n ∧ n ≤ 10000 ∧
  ∀ p q H' ms, Same H H' → H p = none → H q = none → Pool H' p q ms 0 → Q (.ref p) H'
theorem ok_pool (F : Fun Z.K "_law_pool" "_law_pool" s_lw_pool f fd) (T : DrT Z) (c_lw_numbers : Cal Z CX0 1 "_law_numbers" ["_law_cell", "_law_salt", "_law_sizes"] [] (spNumbers Z.K)) : Z.ok CX0 2 f fd ["_law_cell", "_law_salt", "_law_many"] spPool := by
  refine F.ok sc_lw_pool (fun vs H Q E h => ?_) (fun cdv A outer s H vs Q E hr h => ?_)
  · obtain ⟨c, s, n, rfl, _⟩ := h
    rfl
  · obtain ⟨c, sa, n, rfl, hs0, hs1, hn0, hn1, k⟩ := h
    refine ⟨_, (pss_one (ps_ret (pe_lst (pa_cons (pe_cal c_lw_numbers (hr.mono (by decide)) (by rfl) pass0 (pa_cons (pv 0) (pa_cons (pv 1) (pa_cons (pe_op op_rep (pe_lst (pa_cons pe_int pa_nil)) (pv 2)) pa_nil)))) (pa_cons pe_int pa_nil))))), ?_⟩
    refine ⟨_, rfl, _, rfl, by decide, fun l hl => ?_⟩
    refine ⟨_, rfl, l, n, _, rfl, rfl, upd_same, by omega, by omega, ?_, fun l2 hl2 => ?_⟩
    · show 1 * n.toNat ≤ sizeLine
      rw [Nat.one_mul]
      exact Nat.le_of_lt (small1000' (by omega))
    have e1 : Same H (upd (upd H l (.lst [.int 420])) l2 (.lst (List.replicate n.toNat [V.int 420]).flatten)) := fun b o e => by
      have := e
      rw [upd_ne, upd_ne (ne_of_none e hl)]
      · exact e
      · intro z
        subst z
        rw [upd_ne (ne_of_none e hl), e] at hl2
        cases hl2
    refine ⟨c, sa, l2, List.replicate n.toNat 420, rfl, SqL.of (by rw [upd_same, rep420]), ⟨?_, ?_⟩, hs0, hs1, fun q H2 ms e2 hq h2 hb => ?_⟩
    · rw [List.length_replicate]; omega
    · intro x hx
      rw [(List.mem_replicate.mp hx).2]
      decide
    have e3 := e1.trans e2
    refine ⟨Nat.le_of_lt (small1000' (show 2 ≤ 100000 by decide)), fun p hp => ?_⟩
    have hqn : H q = none := e1.free hq
    have hne : q ≠ p := ne_of_none h2 hp
    refine k p q _ ms (fun b o e => ?_) (e3.free hp) hqn ⟨upd_same, by rw [upd_ne hne]; exact h2, ?_, by decide⟩
    · rw [upd_ne (ne_of_none (e3 b o e) hp)]
      exact e3 b o e
    · rw [hb.1, List.length_replicate]; omega
/-- a draw -/
def spDraw : Sp := fun vs H Q _ => ∃ (p q : Addr) (ms : List Int) (i : Nat) (n : Int), vs = [.ref p, .int n] ∧ Pool H p q ms i ∧ 0 < n ∧ i < 100000 ∧
  ∀ r H', 0 ≤ r → r < n → (∀ b, b ≠ p → H' b = H b) → Pool H' p q ms (i + 1) → Q (.int r) H'
theorem ok_draw (F : Fun Z.K "_law_draw" "_law_draw" s_lw_draw f fd) (T : DrT Z) : Z.ok CX0 1 f fd ["_law_pool_here", "_law_many"] spDraw := by
  refine F.ok sc_lw_draw (fun vs H Q E h => ?_) (fun cdv A outer s H vs Q E hr h => ?_)
  · obtain ⟨p, q, ms, i, n, rfl, _⟩ := h
    rfl
  · obtain ⟨p, q, ms, i, n, rfl, hP, hn, hi, k⟩ := h
    refine ⟨_, (pss_cons (ps_set (i := 2) sc_lw_draw.nd rfl (Or.inl rfl) (pe_ix ix_list (pv 0) pe_int (fun _ _ => rfl)))
      (pss_cons (ps_asg (pe_op op_add (pv 2) pe_int) (pg_sub (pv 0) pe_int set_list))
      (pss_one (ps_ret (pe_ifExp (pt_cmpR op_lt (pv 2) (pe_callB call_len_seq (by rfl) T.len PySem.boot_len (pa_cons (pe_ix ix_list (pv 0) pe_int (fun _ _ => rfl)) pa_nil)) (nomark _)) (pe_op op_mod (pe_int1 (by rfl) T.int (pe_ix ix_list (pe_ix ix_list (pv 0) pe_int (fun _ _ => rfl)) (pv 2) (fun _ _ => rfl))) (pv 1)) pe_int))))), ?_⟩
    refine ⟨_, rfl, p, _, _, _, rfl, rfl, SqL.of hP.at_, rfl, ?_⟩
    refine ⟨_, rfl, _, _, rfl, rfl, _, rfl, p, _, _, 1, rfl, rfl, hP.at_, rfl, ?_⟩
    have hP2 : Pool (upd H p (.lst [.ref q, .int ((i : Int) + 1)])) p q ms (i + 1) := ⟨by rw [upd_same, show ((i + 1 : Nat) : Int) = (i : Int) + 1 by omega], by rw [upd_ne hP.ne.symm]; exact hP.nums, hP.len, hi⟩
    have hsame : ∀ b, b ≠ p → (upd H p (.lst [.ref q, .int ((i : Int) + 1)])) b = H b := fun b hb => upd_ne hb
    refine ⟨_, rfl, _, rfl, p, _, _, _, rfl, rfl, SqL.of upd_same, rfl, q, _, rfl, .inl (SqL.of hP2.nums), _, _, rfl, rfl, _, rfl, iteD (fun hlt => ?_) (fun hge => ?_)⟩
    · rw [List.length_map] at hlt
      have hlt' : i < ms.length := by omega
      refine ⟨_, rfl, p, _, _, _, rfl, rfl, SqL.of upd_same, rfl, _, rfl, q, _, _, V.int ms[i], rfl, rfl, SqL.of hP2.nums, ?_, _, rfl, _, rfl, _, _, rfl, rfl, hn, ?_⟩
      · exact atI_nat (by rw [List.getElem?_map, List.getElem?_eq_getElem hlt']; rfl)
      · exact k _ _ (Int.emod_nonneg _ (by omega)) (Int.emod_lt_of_pos _ hn) hsame hP2
    · exact k 0 _ (Int.le_refl 0) hn hsame hP2
/-- the pool of the script's k-th cell -/
def spOpened (K : Frag) : Sp := fun vs H Q _ => ∃ (a : Addr) (ns : List Int) (i : Nat) (n : Int), vs = [.ref a, .int i, .int n] ∧ SqL K H a (ns.map V.int) ∧ (i < ns.length ∨ (ns = [] ∧ i = 0)) ∧ i ≤ 1000 ∧ 0 ≤ n ∧ n ≤ 10000 ∧
  ∀ p q H' ms, Same H H' → H p = none → H q = none → Pool H' p q ms 0 → Q (.ref p) H'
theorem DpAll.ints {K : Frag} {H : Hp} : ∀ ns : List Int, DpAll K H (ns.map V.int) (ns.map PyData.int)
  | [] => .nil
  | n :: r => .cons (.int n) (DpAll.ints r)
theorem shaped_ints (ns : List Int) : SeqAt.shaped (.list (ns.map PyData.int)) = true := ke_shaped_ints ns
theorem ok_opened (F : Fun Z.K "_law_opened" "_law_opened" s_lw_opened f fd) (T : DrT Z) (c_lw_pool : Cal Z CX0 2 "_law_pool" ["_law_cell", "_law_salt", "_law_many"] [] spPool) : Z.ok CX0 3 f fd ["_law_script", "_law_k", "_law_many"] (spOpened Z.K) := by
  refine F.ok sc_lw_opened (fun vs H Q E h => ?_) (fun cdv A outer s H vs Q E hr h => ?_)
  · obtain ⟨a, ns, i, n, rfl, _⟩ := h
    rfl
  · obtain ⟨a, ns, i, n, rfl, hS, hi, hi2, hn0, hn1, k⟩ := h
    refine ⟨_, (pss_cons (ps_set (i := 3) sc_lw_opened.nd rfl (Or.inl rfl) (pe_ifExp (pt_cmpR (op_neD hr.units) (pv 0) (pe_lst pa_nil) (nomark _)) (pe_ix ix_list (pv 0) (pv 1) (fun _ _ => rfl)) pe_int))
      (pss_one (ps_ret (pe_cal c_lw_pool (hr.mono (by decide)) (by rfl) pass0 (pa_cons (pv 3) (pa_cons (pv 1) (pa_cons (pv 2) pa_nil))))))), ?_⟩
    refine ⟨_, rfl, by decide, fun l hl => ?_⟩
    have e1 : Same H (upd H l (.lst [])) := fun b o e => by rw [upd_ne (ne_of_none e hl)]; exact e
    refine ⟨_, _, .lst (e1.seq hS) (DpAll.ints ns), .lst (SqL.of upd_same) .nil, shaped_ints ns, rfl, _, rfl, ?_⟩
    have fin : ∀ c : Int, spPool [.int c, .int i, .int n] (upd H l (.lst [])) Q E0 := fun c =>
      ⟨c, i, n, rfl, by omega, by omega, hn0, hn1, fun p q H' ms e hp hq P => k p q H' ms (e1.trans e) (e1.free hp) (e1.free hq) P⟩
    cases ns with
    | nil =>
      refine iteF ?_
      exact ⟨_, rfl, _, rfl, _, rfl, fin 7⟩
    | cons x r =>
      refine iteT ?_
      have hlt : i < (x :: r).length := by
        rcases hi with h | h
        · exact h
        · cases h.1
      refine ⟨_, rfl, _, rfl, a, _, _, V.int (x :: r)[i], rfl, rfl, e1.seq hS, atI_nat (by rw [List.getElem?_map, List.getElem?_eq_getElem hlt]; rfl), _, rfl, _, rfl, _, rfl, fin _⟩
end
end Ps

/-! k01: the law's own defs. -/
namespace Ps
open PySem PySem.Spec PyProof.Rows PySem.W L2

/-- two rules of one operator -/
theorem op_both {X : Cx} {f : Value → Value → Sem Value} {r1 r2 : R2} (h1 : OpR X f r1) (h2 : OpR X f r2) : OpR X f (fun x y H Q => r1 x y H Q ∨ r2 x y H Q) := by
  intro pins s σ H x y v u Q I rx ry h
  rcases h with h | h
  · exact h1 pins s σ H x y v u Q I rx ry h
  · exact h2 pins s σ H x y v u Q I rx ry h
/-- a test, with a word behind it -/
def tCutT (t : TT) : TT := fun σ H Q => ∃ Mid : Bool → Hp → Prop, t σ H Mid ∧ ∀ b H', Mid b H' → Q b H'
theorem pt_cut {X : Cx} {e : Expr} {t : TT} (h : PT X e t) : PT X e (tCutT t) := by
  refine ⟨fun pins s σ H Q I q => ?_⟩
  obtain ⟨Mid, hm, hq⟩ := q
  exact thn (h.run pins s σ H Mid I hm) fun d s1 ⟨H1, I1, q1⟩ => ⟨H1, I1, hq _ _ q1⟩

theorem mk_shI {C x dx : Addr} {H : Hp} {Q2 : VK} {E : XK} {t u : Int} (hu : u ≠ 0) (hb : u.natAbs < 2 ^ 9000) (hx : H x = none) (hdx : H dx = none) (hne : dx ≠ x) (k : ∀ H', Same H H' → Sh C H' (.ref x) (low t u) → Q2 .non H') :
    spShInit C [.ref x, .int t, .int u] (upd (upd H dx (.own x)) x (.ins C dx [])) Q2 E := by
  refine ⟨x, dx, t, u, rfl, upd_same, hu, hb, fun H' h1 h2 => ?_⟩
  refine k H' (fun b o e => ?_) ⟨x, dx, rfl, h2⟩
  rw [h1 b (ne_of_none e hx), upd_ne (ne_of_none e hx), upd_ne (ne_of_none e hdx)]
  exact e
def pair (q : Int × Int) : List V := [.int q.1, .int q.2]
/-- a new list -/
def NewL (H : Hp) (Q : VK) (xs : List V) : Prop := ∀ p H', Same H H' → H p = none → H' p = some (.lst xs) → Q (.ref p) H'
theorem NewL.here {H H1 : Hp} {Q : VK} {xs : List V} (k : NewL H Q xs) (e : Same H H1) {p : Addr} (hp : H1 p = none) : Q (.ref p) (upd H1 p (.lst xs)) :=
  k p _ (e.trans (Same.upd hp)) (e.free hp) upd_same
theorem pair_dp {K : Frag} {H : Hp} {p : Addr} {q : Int × Int} (h : H p = some (.lst (pair q))) : Dp K H (.ref p) (.list [.int q.1, .int q.2]) := .lst (SqL.of h) (.cons (.int _) (.cons (.int _) .nil))

def spLowest : Sp := fun vs H Q _ => ∃ t u : Int, vs = [.int t, .int u] ∧ u ≠ 0 ∧ u.natAbs < 2 ^ 9000 ∧ NewL H Q (pair (low t u))
def spParts (C : Addr) : Sp := fun vs H Q _ => ∃ v q, vs = [v] ∧ Sh C H v q ∧ Sz 9000 q ∧ NewL H Q (pair q)
def due (w : Int) (q r : Int × Int) : Int × Int := if w = 0 then low (q.1 * r.2 + r.1 * q.2) (q.2 * r.2) else if w = 1 then low (q.1 * r.2 - r.1 * q.2) (q.2 * r.2) else if w = 2 then low (q.1 * r.1) (q.2 * r.2) else low (q.1 * r.2) (q.2 * r.1)
def done (w : Int) (q r : Int × Int) : Int × Int := if w = 0 then gAdd q r else if w = 1 then gSub q r else if w = 2 then gMul q r else gBy q r
/-- which ways may be gone -/
def Way (w : Int) (r : Int × Int) : Prop := w = 0 ∨ w = 1 ∨ w = 2 ∨ (w = 3 ∧ r.1 ≠ 0)
def spDue (K : Frag) : Sp := fun vs H Q _ => ∃ (w : Int) (a b : Addr) (q r : Int × Int), vs = [.int w, .ref a, .ref b] ∧ SqL K H a (pair q) ∧ SqL K H b (pair r) ∧ Sz 4000 q ∧ Sz 4000 r ∧ Way w r ∧ NewL H Q (pair (due w q r))
def spDone (C : Addr) : Sp := fun vs H Q _ => ∃ (w : Int) (x y : V) (q r : Int × Int), vs = [.int w, x, y] ∧ Nb C H x q ∧ Nb C H y r ∧ (Sh C H x q ∨ Sh C H y r) ∧ Sz 4000 q ∧ Sz 4000 r ∧ Way w r ∧ NewL H Q (pair (done w q r))

theorem gAdd_comm (q r : Int × Int) : gAdd q r = gAdd r q := by
  unfold gAdd
  rw [Int.add_comm, Int.mul_comm q.2]
theorem gMul_comm (q r : Int × Int) : gMul q r = gMul r q := by
  unfold gMul
  rw [Int.mul_comm q.1, Int.mul_comm q.2]
theorem done_due {w t u c d : Int} (hu : u ≠ 0) (hd : d ≠ 0) (h : Way w (c, d)) : done w (low t u) (low c d) = due w (t, u) (c, d) := by
  rcases h with rfl | rfl | rfl | ⟨rfl, hc⟩
  · exact low_add hu hd
  · show gAdd (low t u) (low (-(low c d).1) (low c d).2) = low (t * d - c * u) (u * d)
    rw [low_neg hd]
    have := low_add (t := t) (c := -c) hu hd
    unfold gAdd
    rw [this, Int.neg_mul, ← Int.sub_eq_add_neg]
  · exact low_mul hu hd
  · exact low_by hu hd hc
theorem Way.low {w c d : Int} (hd : d ≠ 0) (h : Way w (c, d)) : Way w (Ps.low c d) := by
  rcases h with rfl | rfl | rfl | ⟨rfl, hc⟩
  · exact .inl rfl
  · exact .inr (.inl rfl)
  · exact .inr (.inr (.inl rfl))
  · exact .inr (.inr (.inr ⟨rfl, fun z => hc ((low_ne0 hd).mp z)⟩))
theorem Sz.low {n : Nat} {q : Int × Int} (h : Sz n q) : Sz n (Ps.low q.1 q.2) :=
  ⟨Int.ne_of_gt (low_pos h.ne), Nat.lt_of_le_of_lt (low_le1 h.ne) h.t, Nat.lt_of_le_of_lt (low_le2 h.ne) h.u⟩
theorem vne {i j : Int} (h : i ≠ j) : ¬ V.int i = V.int j := fun z => h (V.int.inj z)

section
variable {Z : Cz} {f C : Addr} {fd : FuncData}
theorem ok_lowest (F : Fun Z.K "_law_lowest" "_law_lowest" s_lw_lowest f fd) (T : ShT Z C) : Z.ok CX0 1 f fd ["_law_top", "_law_under"] spLowest := by
  refine F.ok sc_lw_lowest (fun vs H Q E h => ?_) (fun cdv A outer s H vs Q E hr h => ?_)
  · obtain ⟨a, b, rfl, _⟩ := h
    rfl
  · obtain ⟨a, b, rfl, hu, hb, k⟩ := h
    refine ⟨_, (pss_cons (ps_par (i := 2) (j := 3) (by rfl) sc_lw_lowest.nd rfl rfl (by decide) rfl rfl (pa_cons (pe_callB call_abs (by rfl) T.abs (by decide +kernel) (pa_cons (pv 0) pa_nil)) (pa_cons (pe_callB call_abs (by rfl) T.abs (by decide +kernel) (pa_cons (pv 1) pa_nil)) pa_nil)) (by rfl))
      (pss_cons (ps_while PassesOwn.never (pt_cmpR op_gt (pv 3) pe_int (nomark _))
      (pss_one (ps_par (i := 2) (j := 3) (by rfl) sc_lw_lowest.nd rfl rfl (by decide) rfl rfl (pa_cons (pv 3) (pa_cons (pe_op op_mod (pv 2) (pv 3)) pa_nil)) (by rfl))))
      (pss_cons (ps_if (pt_cmpR op_lt (pv 1) pe_int (nomark _))
      (pss_one (ps_set (i := 2) sc_lw_lowest.nd rfl (Or.inl rfl) (pe_un un_neg (pv 2))))
      pss_nil)
      (pss_one (ps_ret (pe_lst (pa_cons (pe_op op_fdivG (pv 0) (pv 2)) (pa_cons (pe_op op_fdivG (pv 1) (pv 2)) pa_nil)))))))), ?_⟩
    refine ⟨_, rfl, _, rfl, _, rfl, _, rfl, _, _, rfl, ?_⟩
    refine while_by (fun σ H' => ∃ x y : Int, σ = [some (.int a), some (.int b), some (.int x), some (.int y)] ∧ H' = H ∧ 0 ≤ x ∧ 0 ≤ y ∧ Int.gcd x y = Int.gcd a b) (fun σ _ => match σ with | [_, _, _, some (.int y)] => y.toNat | _ => 0)
      ⟨_, _, rfl, rfl, ?_, ?_, ?_⟩ (fun σ H1 z => ?_) (fun σ H1 Q Q' m z => ?_)
    · split <;> omega
    · split <;> omega
    · rw [show (if a < 0 then -a else a) = ((a.natAbs : Nat) : Int) by split <;> omega, show (if b < 0 then -b else b) = ((b.natAbs : Nat) : Int) by split <;> omega]
      rfl
    · obtain ⟨x, y, rfl, rfl, hx, hy, e⟩ := z
      refine ⟨_, rfl, _, _, rfl, rfl, _, rfl, iteD (fun hy0 => ?_) (fun hy0 => ?_)⟩
      · refine ⟨_, rfl, _, rfl, _, rfl, _, _, rfl, rfl, (by show (0 : Int) < y; omega), _, _, rfl, ?_⟩
        have h1 := Int.emod_nonneg x (show y ≠ 0 by omega)
        have h2 := Int.emod_lt_of_pos x (show 0 < y by omega)
        refine ⟨⟨_, _, rfl, rfl, hy, h1, ?_⟩, ?_⟩
        · rw [← e]
          exact gcd_step hx hy
        · show (x % y).toNat < y.toNat
          omega
      · have hy1 : y = 0 := by omega
        subst hy1
        have e2 : Int.gcd x 0 = x.natAbs := Int.gcd_zero_right ..
        rw [e2] at e
        have e3 : x = (Int.gcd a b : Int) := by omega
        subst e3
        have fin : ∀ (H2 : Hp) (σ : L2.St), H2 = H1 → σ = [some (.int a), some (.int b), some (.int (lowG a b)), some (.int 0)] → (tRet (tLst (tCons (tOp (rI CDivG fun i j => .int (i.fdiv j)) (tVar 0) (tVar 2)) (tCons (tOp (rI CDivG fun i j => .int (i.fdiv j)) (tVar 1) (tVar 2)) tNil)))) { nx := fun _ H' => Q .non H', rt := Q } σ H2 := by
          rintro H2 σ rfl rfl
          have hG : CDivG a (lowG a b) := divG (b := 9000) (lowG_ne hu) (Nat.lt_of_le_of_lt (by rw [lowG_abs]; exact Int.gcd_le_natAbs_right _ hu) hb) (by decide) (Nat.le_refl _)
          refine ⟨_, rfl, _, rfl, _, _, rfl, rfl, hG, _, rfl, _, rfl, _, _, rfl, rfl, hG, (by show 2 ≤ sizeLine; decide), fun p hp => ?_⟩
          exact k.here (Same.refl _) hp
        refine ⟨_, rfl, _, _, rfl, rfl, _, rfl, iteD (fun h0 => ?_) (fun h0 => ?_)⟩
        · refine ⟨_, rfl, _, rfl, ?_⟩
          refine fin _ _ rfl ?_
          unfold lowG
          rw [if_pos h0]
          rfl
        · refine fin _ _ rfl ?_
          unfold lowG
          rw [if_neg h0]
    · obtain ⟨v, hv, i, j, e1, e2, k, hk, z2⟩ := z
      exact ⟨v, hv, i, j, e1, e2, k, hk, m _ _ z2⟩

abbrev CTop (Z : Cz) (C : Addr) : Prop := CalP Z CX0 1 C "top" (spGet C 9000 fun q => .int q.1)
abbrev CUnder (Z : Cz) (C : Addr) : Prop := CalP Z CX0 1 C "under" (spGet C 9000 fun q => .int q.2)
theorem ok_parts (F : Fun Z.K "_law_parts" "_law_parts" s_lw_parts f fd) (T : ShT Z C) (c_top : CTop Z C) (c_under : CUnder Z C) : Z.ok CX0 3 f fd ["_law_share"] (spParts C) := by
  refine F.ok sc_lw_parts (fun vs H Q E h => ?_) (fun cdv A outer s H vs Q E hr h => ?_)
  · obtain ⟨v, q, rfl, _⟩ := h
    rfl
  · obtain ⟨v, q, rfl, hv, hz, k⟩ := h
    refine ⟨_, (pss_one (ps_ret (pe_lst (pa_cons (pe_calP c_top hr pass0 (pv 0) rfl) (pa_cons (pe_calP c_under hr pass0 (pv 0) rfl) pa_nil))))), ?_⟩
    obtain ⟨a, dx, rfl, ha⟩ := id hv
    refine ⟨_, rfl, a, dx, _, rfl, ha, _, q, rfl, hv, hz, _, rfl, a, dx, _, rfl, ha, _, q, rfl, hv, hz, (by show 2 ≤ sizeLine; decide), fun p hp => ?_⟩
    exact k.here (Same.refl _) hp
abbrev CLow (Z : Cz) : Prop := Cal Z CX0 1 "_law_lowest" ["_law_top", "_law_under"] [] spLowest
abbrev CParts (Z : Cz) (C : Addr) : Prop := Cal Z CX0 3 "_law_parts" ["_law_share"] [] (spParts C)

theorem ok_due (F : Fun Z.K "_law_due" "_law_due" s_lw_due f fd) (c_lw_lowest : CLow Z) : Z.ok CX0 2 f fd ["_law_way", "_law_one", "_law_other"] (spDue Z.K) := by
  refine F.ok sc_lw_due (fun vs H Q E h => ?_) (fun cdv A outer s H vs Q E hr h => ?_)
  · obtain ⟨w, a, b, q, r, rfl, _⟩ := h
    rfl
  · obtain ⟨w, a, b, q, r, rfl, ha, hb, hq, hr', hw, k⟩ := h
    refine ⟨_, (pss_cons (ps_if (pt_cmpR op_eq (pv 0) pe_int (nomark _))
      (pss_one (ps_ret (pe_cal c_lw_lowest (hr.mono (by decide)) (by rfl) pass0 (pa_cons (pe_op op_add (pe_op op_mulW (pe_ix ix_list (pv 1) pe_int (fun _ _ => rfl)) (pe_ix ix_list (pv 2) pe_int (fun _ _ => rfl))) (pe_op op_mulW (pe_ix ix_list (pv 2) pe_int (fun _ _ => rfl)) (pe_ix ix_list (pv 1) pe_int (fun _ _ => rfl)))) (pa_cons (pe_op op_mulW (pe_ix ix_list (pv 1) pe_int (fun _ _ => rfl)) (pe_ix ix_list (pv 2) pe_int (fun _ _ => rfl))) pa_nil)))))
      pss_nil)
      (pss_cons (ps_if (pt_cmpR op_eq (pv 0) pe_int (nomark _))
      (pss_one (ps_ret (pe_cal c_lw_lowest (hr.mono (by decide)) (by rfl) pass0 (pa_cons (pe_op op_sub (pe_op op_mulW (pe_ix ix_list (pv 1) pe_int (fun _ _ => rfl)) (pe_ix ix_list (pv 2) pe_int (fun _ _ => rfl))) (pe_op op_mulW (pe_ix ix_list (pv 2) pe_int (fun _ _ => rfl)) (pe_ix ix_list (pv 1) pe_int (fun _ _ => rfl)))) (pa_cons (pe_op op_mulW (pe_ix ix_list (pv 1) pe_int (fun _ _ => rfl)) (pe_ix ix_list (pv 2) pe_int (fun _ _ => rfl))) pa_nil)))))
      pss_nil)
      (pss_cons (ps_if (pt_cmpR op_eq (pv 0) pe_int (nomark _))
      (pss_one (ps_ret (pe_cal c_lw_lowest (hr.mono (by decide)) (by rfl) pass0 (pa_cons (pe_op op_mulW (pe_ix ix_list (pv 1) pe_int (fun _ _ => rfl)) (pe_ix ix_list (pv 2) pe_int (fun _ _ => rfl))) (pa_cons (pe_op op_mulW (pe_ix ix_list (pv 1) pe_int (fun _ _ => rfl)) (pe_ix ix_list (pv 2) pe_int (fun _ _ => rfl))) pa_nil)))))
      pss_nil)
      (pss_one (ps_ret (pe_cal c_lw_lowest (hr.mono (by decide)) (by rfl) pass0 (pa_cons (pe_op op_mulW (pe_ix ix_list (pv 1) pe_int (fun _ _ => rfl)) (pe_ix ix_list (pv 2) pe_int (fun _ _ => rfl))) (pa_cons (pe_op op_mulW (pe_ix ix_list (pv 1) pe_int (fun _ _ => rfl)) (pe_ix ix_list (pv 2) pe_int (fun _ _ => rfl))) pa_nil)))))))), ?_⟩
    refine ⟨_, rfl, rfl, _, rfl, iteD (fun h0 => ?_) (fun h0 => ?_)⟩
    · obtain rfl := V.int.inj h0
      refine ⟨_, rfl, a, _, _, _, rfl, rfl, ha, rfl, _, rfl, b, _, _, _, rfl, rfl, hb, rfl, _, _, rfl, rfl, lt_mul hq.t hr'.u, _, rfl, b, _, _, _, rfl, rfl, hb, rfl, _, rfl, a, _, _, _, rfl, rfl, ha, rfl, _, _, rfl, rfl, lt_mul hr'.t hq.u, _, _, rfl, rfl, ?_⟩
      refine ⟨_, rfl, a, _, _, _, rfl, rfl, ha, rfl, _, rfl, b, _, _, _, rfl, rfl, hb, rfl, _, _, rfl, rfl, lt_mul hq.u hr'.u, ?_⟩
      exact ⟨_, _, rfl, Int.mul_ne_zero hq.ne hr'.ne, mul_lt hq.u hr'.u, k⟩
    refine ⟨_, rfl, rfl, _, rfl, iteD (fun h1 => ?_) (fun h1 => ?_)⟩
    · obtain rfl := V.int.inj h1
      refine ⟨_, rfl, a, _, _, _, rfl, rfl, ha, rfl, _, rfl, b, _, _, _, rfl, rfl, hb, rfl, _, _, rfl, rfl, lt_mul hq.t hr'.u, _, rfl, b, _, _, _, rfl, rfl, hb, rfl, _, rfl, a, _, _, _, rfl, rfl, ha, rfl, _, _, rfl, rfl, lt_mul hr'.t hq.u, _, _, rfl, rfl, ?_⟩
      refine ⟨_, rfl, a, _, _, _, rfl, rfl, ha, rfl, _, rfl, b, _, _, _, rfl, rfl, hb, rfl, _, _, rfl, rfl, lt_mul hq.u hr'.u, ?_⟩
      exact ⟨_, _, rfl, Int.mul_ne_zero hq.ne hr'.ne, mul_lt hq.u hr'.u, k⟩
    refine ⟨_, rfl, rfl, _, rfl, iteD (fun h2 => ?_) (fun h2 => ?_)⟩
    · obtain rfl := V.int.inj h2
      refine ⟨_, rfl, a, _, _, _, rfl, rfl, ha, rfl, _, rfl, b, _, _, _, rfl, rfl, hb, rfl, _, _, rfl, rfl, lt_mul hq.t hr'.t, ?_⟩
      refine ⟨_, rfl, a, _, _, _, rfl, rfl, ha, rfl, _, rfl, b, _, _, _, rfl, rfl, hb, rfl, _, _, rfl, rfl, lt_mul hq.u hr'.u, ?_⟩
      exact ⟨_, _, rfl, Int.mul_ne_zero hq.ne hr'.ne, mul_lt hq.u hr'.u, k⟩
    rcases hw with rfl | rfl | rfl | ⟨rfl, hc⟩
    · exact absurd rfl h0
    · exact absurd rfl h1
    · exact absurd rfl h2
    · refine ⟨_, rfl, a, _, _, _, rfl, rfl, ha, rfl, _, rfl, b, _, _, _, rfl, rfl, hb, rfl, _, _, rfl, rfl, lt_mul hq.t hr'.u, ?_⟩
      refine ⟨_, rfl, a, _, _, _, rfl, rfl, ha, rfl, _, rfl, b, _, _, _, rfl, rfl, hb, rfl, _, _, rfl, rfl, lt_mul hq.u hr'.t, ?_⟩
      exact ⟨_, _, rfl, Int.mul_ne_zero hq.ne hc, mul_lt hq.u hr'.t, k⟩
end
end Ps

/-! k01: the law's deeds and its look at two shares. -/
namespace Ps
open PySem PySem.Spec PyProof.Rows PySem.W L2

theorem Sz.of_low {n : Nat} {t u : Int} (hu : u ≠ 0) (h1 : t.natAbs < 2 ^ n) (h2 : u.natAbs < 2 ^ n) : Sz n (Ps.low t u) :=
  ⟨Int.ne_of_gt (low_pos hu), Nat.lt_of_le_of_lt (low_le1 hu) h1, Nat.lt_of_le_of_lt (low_le2 hu) h2⟩
theorem add_lt {i j : Int} {n : Nat} (hi : i.natAbs < 2 ^ n) (hj : j.natAbs < 2 ^ n) : (i + j).natAbs < 2 ^ (n + 1) := by
  rw [Nat.pow_succ]
  omega
theorem Sz.add {n : Nat} {q r : Int × Int} (hq : Sz n q) (hr : Sz n r) : Sz (n + n + 1) (gAdd q r) :=
  Sz.of_low (Int.mul_ne_zero hq.ne hr.ne) (add_lt (wide_lt hq.t hr.u) (wide_lt hr.t hq.u)) (lt_up (wide_lt hq.u hr.u) (by omega))
theorem Sz.mul {n : Nat} {q r : Int × Int} (hq : Sz n q) (hr : Sz n r) : Sz (n + n) (gMul q r) :=
  Sz.of_low (Int.mul_ne_zero hq.ne hr.ne) (wide_lt hq.t hr.t) (wide_lt hq.u hr.u)
theorem Sz.by_ {n : Nat} {q r : Int × Int} (hq : Sz n q) (hr : Sz n r) (hn : r.1 ≠ 0) : Sz (n + n) (gBy q r) :=
  Sz.of_low (Int.mul_ne_zero hq.ne hn) (wide_lt hq.t hr.u) (wide_lt hq.u hr.t)
theorem Sz.done {w : Int} {q r : Int × Int} (hq : Sz 4000 q) (hr : Sz 4000 r) (h : Way w r) : Sz 9000 (Ps.done w q r) := by
  rcases h with rfl | rfl | rfl | ⟨rfl, hc⟩
  · exact (hq.add hr).up (by decide)
  · exact (hq.add hr.neg).up (by decide)
  · exact (hq.mul hr).up (by decide)
  · exact (hq.by_ hr hc).up (by decide)

/-- what stands of the shares' methods -/
structure ShM (Z : Cz) (C : Addr) : Prop where
  add : CAdd Z C
  mul : CMul Z C
  neg : CNeg Z C
  sub : CalS Z CX0 6 C "__sub__" ["self", "other"] (spBin C 4000 gSub)
  radd : CalS Z CX0 6 C "__radd__" ["self", "other"] (spBin C 4000 gAdd)
  rsub : CalS Z CX0 6 C "__rsub__" ["self", "other"] (spBin C 4000 fun q r => gSub r q)
  rmul : CalS Z CX0 6 C "__rmul__" ["self", "other"] (spBin C 4000 gMul)
  abs : CalS Z CX0 4 C "__abs__" ["self"] (spUn C 9000 gAbs)
  by_ : CalM Z CX0 5 C "by" ["self", "other"] [] (spBy C)
  floor : CalM Z CX0 1 C "floor" ["self"] [] (spGet C 9000 fun q => .int (q.1.fdiv q.2))
  na : NumF Z.K C "add"
  ns : NumF Z.K C "sub"
  nm : NumF Z.K C "mul"
  new : CShare Z C
  new1 : CShare1 Z C
theorem shF_no (t u : Int) (m : Str) (h1 : (m == ("own_top" : Str)) = false) (h2 : (m == ("own_under" : Str)) = false) : (shF t u).lookup m = none := by
  unfold shF
  rw [List.lookup_cons, h1, List.lookup_cons, h2]
  rfl

section
variable {Z : Cz} {f C : Addr} {fd : FuncData}
theorem ok_done (F : Fun Z.K "_law_done" "_law_done" s_lw_done f fd) (T : ShT Z C) (M : ShM Z C) (c_lw_parts : CParts Z C) : Z.ok CX0 7 f fd ["_law_way", "_law_one", "_law_other"] (spDone C) := by
  refine F.ok sc_lw_done (fun vs H Q E h => ?_) (fun cdv A outer s H vs Q E hr h => ?_)
  · obtain ⟨w, x, y, q, r, rfl, _⟩ := h
    rfl
  · obtain ⟨w, x, y, q, r, rfl, hx, hy, hs, hq, hr', hw, k⟩ := h
    refine ⟨_, (pss_cons (ps_if (pt_cmpR op_eq (pv 0) pe_int (nomark _))
      (pss_one (ps_ret (pe_cal c_lw_parts (hr.mono (by decide)) (by rfl) pass0 (pa_cons (pe_op (op_both (op_num (op := .Add) M.add M.na (hr.mono (by decide)) pass0) (op_radd M.radd M.na hr pass0)) (pv 1) (pv 2)) pa_nil))))
      pss_nil)
      (pss_cons (ps_if (pt_cmpR op_eq (pv 0) pe_int (nomark _))
      (pss_one (ps_ret (pe_cal c_lw_parts (hr.mono (by decide)) (by rfl) pass0 (pa_cons (pe_op (op_both (op_num (op := .Sub) M.sub M.ns hr pass0) (op_rsub M.rsub M.ns hr pass0)) (pv 1) (pv 2)) pa_nil))))
      pss_nil)
      (pss_cons (ps_if (pt_cmpR op_eq (pv 0) pe_int (nomark _))
      (pss_one (ps_ret (pe_cal c_lw_parts (hr.mono (by decide)) (by rfl) pass0 (pa_cons (pe_op (op_both (op_num (op := .Mult) M.mul M.nm (hr.mono (by decide)) pass0) (op_rmul M.rmul M.nm hr pass0)) (pv 1) (pv 2)) pa_nil))))
      pss_nil)
      (pss_one (ps_ret (pe_ifExp (pt_val (pe_callB call_isi (by rfl) T.isi (by decide +kernel) (pa_cons (pv 1) (pa_cons (pe_glob (v := .ref C) rfl T.mgC rfl) pa_nil)))) (pe_cal c_lw_parts (hr.mono (by decide)) (by rfl) pass0 (pa_cons (pe_calM M.by_ (hr.mono (by decide)) pass0 (pv 1) (pa_cons (pv 2) pa_nil)) pa_nil)) (pe_cal c_lw_parts (hr.mono (by decide)) (by rfl) pass0 (pa_cons (pe_calM M.by_ (hr.mono (by decide)) pass0 (pe_calC M.new1 (hr.mono (by decide)) (by rfl) pass0 (pa_cons (pv 1) pa_nil)) (pa_cons (pv 2) pa_nil)) pa_nil)))))))), ?_⟩
    have zd := hq.done hr' hw
    have fin : ∀ v H1, Same H H1 → Sh C H1 v (done w q r) → spParts C [v] H1 Q E0 := fun v H1 e1 hv =>
      ⟨v, _, rfl, hv, zd, fun p H' e hp h => k p H' (e1.trans e) (e1.free hp) h⟩
    have cse : Sh C H x q ∨ ((∃ i, x = .int i) ∧ Sh C H y r) := by
      rcases hx with hx | ⟨i, rfl, rfl⟩
      · exact .inl hx
      · rcases hs with ⟨_, _, z, _⟩ | hs
        · cases z
        · exact .inr ⟨⟨_, rfl⟩, hs⟩
    refine ⟨_, rfl, rfl, _, rfl, iteD (fun h0 => ?_) (fun h0 => ?_)⟩
    · obtain rfl := V.int.inj h0
      rcases cse with hx' | ⟨hi, hy'⟩
      · exact ⟨_, rfl, _, rfl, .inl ⟨hx'.ins, hy.num, _, _, _, _, rfl, hx', hy, hq, hr', fun v H' e z => fin v H' e z⟩⟩
      · refine ⟨_, rfl, _, rfl, .inr ⟨hi, hy'.ins, _, _, _, _, rfl, hy', hx, hr', hq, fun v H' e z => fin v H' e ?_⟩⟩
        rw [gAdd_comm] at z
        exact z
    refine ⟨_, rfl, rfl, _, rfl, iteD (fun h1 => ?_) (fun h1 => ?_)⟩
    · obtain rfl := V.int.inj h1
      rcases cse with hx' | ⟨hi, hy'⟩
      · exact ⟨_, rfl, _, rfl, .inl ⟨hx'.ins, hy.num, _, _, _, _, rfl, hx', hy, hq, hr', fun v H' e z => fin v H' e z⟩⟩
      · exact ⟨_, rfl, _, rfl, .inr ⟨hi, hy'.ins, _, _, _, _, rfl, hy', hx, hr', hq, fun v H' e z => fin v H' e z⟩⟩
    refine ⟨_, rfl, rfl, _, rfl, iteD (fun h2 => ?_) (fun h2 => ?_)⟩
    · obtain rfl := V.int.inj h2
      rcases cse with hx' | ⟨hi, hy'⟩
      · exact ⟨_, rfl, _, rfl, .inl ⟨hx'.ins, hy.num, _, _, _, _, rfl, hx', hy, hq, hr', fun v H' e z => fin v H' e z⟩⟩
      · refine ⟨_, rfl, _, rfl, .inr ⟨hi, hy'.ins, _, _, _, _, rfl, hy', hx, hr', hq, fun v H' e z => fin v H' e ?_⟩⟩
        rw [gMul_comm] at z
        exact z
    have hc : w = 3 ∧ r.1 ≠ 0 := by
      rcases hw with rfl | rfl | rfl | h
      · exact absurd rfl h0
      · exact absurd rfl h1
      · exact absurd rfl h2
      · exact h
    obtain ⟨rfl, hc⟩ := hc
    rcases hx with hx' | ⟨i, rfl, rfl⟩
    · obtain ⟨a, dx, rfl, ha⟩ := id hx'
      refine ⟨_, rfl, _, _, _, _, true, rfl, .own C, T.ty ha, T.kCC, _, rfl, iteT ?_⟩
      exact ⟨_, rfl, a, dx, _, rfl, ha, shF_no _ _ _ (by decide) (by decide), _, rfl, _, _, _, _, rfl, hx', hy, hq, hr', hc, fun v H' e z => fin v H' e z⟩
    · refine ⟨_, rfl, _, _, _, _, false, rfl, .own C, .base (.int _), T.kIC, _, rfl, iteF ?_⟩
      refine ⟨_, rfl, ?_⟩
      intro p1 dp h1 h2 h3
      refine mk_shI (by decide) (by decide +kernel) h1 h2 h3 fun H1 e1 z => ⟨rfl, ?_⟩
      rw [low_one] at z
      obtain ⟨a, dx, ea, ha⟩ := id z
      cases ea
      exact ⟨_, dx, _, rfl, ha, shF_no _ _ _ (by decide) (by decide), _, rfl, _, _, _, _, rfl, z, hy.mono e1, hq, hr', hc, fun v H' e z => fin v H' (e1.trans e) z⟩
end
end Ps

/-! k01: the law's look at two shares. -/
namespace Ps
open PySem PySem.Spec PyProof.Rows PySem.W L2

theorem eqv_pair (q : Int × Int) : PyData.eqv (.list [.int q.1, .int q.2]) (.list [.int q.1, .int q.2]) = true := SeqAt.eqv_refl _ rfl
theorem Way.of_lt {w : Int} {r : Int × Int} (h0 : 0 ≤ w) (h : w < 3) : Way w r := by
  rcases (show w = 0 ∨ w = 1 ∨ w = 2 by omega) with h | h | h
  · exact .inl h
  · exact .inr (.inl h)
  · exact .inr (.inr (.inl h))
theorem Way.of_ne {w : Int} {r : Int × Int} (h0 : 0 ≤ w) (h : w < 4) (hn : r.1 ≠ 0) : Way w r := by
  by_cases h3 : w < 3
  · exact Way.of_lt h0 h3
  · exact .inr (.inr (.inr ⟨by omega, hn⟩))
def spRight (K : Frag) : Sp := fun vs H Q _ => ∃ (a b : Addr) (m : Int) (q r : Int × Int), vs = [.ref a, .ref b, .int m] ∧ SqL K H a (pair q) ∧ SqL K H b (pair r) ∧ Sz 4000 q ∧ Sz 4000 r ∧ m.natAbs < 2 ^ 4000 ∧ ∀ H', Same H H' → Q (.bl true) H'

section
variable {Z : Cz} {f C : Addr} {fd : FuncData}
theorem ok_right (F : Fun Z.K "_law_right" "_law_right" s_lw_right f fd) (T : ShT Z C) (D : DrT Z) (M : ShM Z C) (c_lw_parts : CParts Z C) (c_lw_lowest : CLow Z)
    (c_lw_due : Cal Z CX0 2 "_law_due" ["_law_way", "_law_one", "_law_other"] [] (spDue Z.K)) (c_lw_done : Cal Z CX0 7 "_law_done" ["_law_way", "_law_one", "_law_other"] [] (spDone C)) : Z.ok CX0 8 f fd ["_law_one", "_law_other", "_law_more"] (spRight Z.K) := by
  refine F.ok sc_lw_right (fun vs H Q E h => ?_) (fun cdv A outer s H vs Q E hr h => ?_)
  · obtain ⟨a, b, m, q, r, rfl, _⟩ := h
    rfl
  · obtain ⟨a, b, m, ⟨t, u⟩, ⟨c, d⟩, rfl, ha, hb, hq, hr', hm, k⟩ := h
    refine ⟨_, (pss_cons (ps_par (i := 3) (j := 4) (by rfl) sc_lw_right.nd rfl rfl (by decide) rfl rfl (pa_cons (pe_calC M.new (hr.mono (by decide)) (by rfl) pass0 (pa_cons (pe_ix ix_list (pv 0) pe_int (fun _ _ => rfl)) (pa_cons (pe_ix ix_list (pv 0) pe_int (fun _ _ => rfl)) pa_nil))) (pa_cons (pe_calC M.new (hr.mono (by decide)) (by rfl) pass0 (pa_cons (pe_ix ix_list (pv 1) pe_int (fun _ _ => rfl)) (pa_cons (pe_ix ix_list (pv 1) pe_int (fun _ _ => rfl)) pa_nil))) pa_nil)) (by rfl))
      (pss_cons (ps_for PassesOwn.never rfl (pi_range1 (by rfl) D.range (pa_cons pe_int pa_nil)) (pg_name (i := 5) sc_lw_right.nd rfl (Or.inl rfl))
      (C8.pss_cut (ps_if (pt_cut (PW.pt (pw_or (pt_cmpR op_ne (pe_ix ix_list (pv 1) pe_int (fun _ _ => rfl)) pe_int (nomark _)) (pw_or1 (pt_cmpR op_lt (pv 5) pe_int (nomark _))))))
        (pss_one (ps_if (pt_cmpR (op_neD hr.units) (pe_cal c_lw_done (hr.mono (by decide)) (by rfl) pass0 (pa_cons (pv 5) (pa_cons (pv 3) (pa_cons (pv 4) pa_nil)))) (pe_cal c_lw_due (hr.mono (by decide)) (by rfl) pass0 (pa_cons (pv 5) (pa_cons (pv 0) (pa_cons (pv 1) pa_nil)))) (nomark _))
          (pss_one (ps_ret pe_bl))
          pss_nil))
        pss_nil)
        (C8.pss_cut (ps_if (pt_cut (PW.pt (pw_or (pt_cmpR op_ne (pv 2) pe_int (nomark _)) (pw_or1 (pt_cmpR op_lt (pv 5) pe_int (nomark _))))))
        (pss_one (ps_if (pt_cmpR (op_neD hr.units) (pe_cal c_lw_done (hr.mono (by decide)) (by rfl) pass0 (pa_cons (pv 5) (pa_cons (pv 3) (pa_cons (pv 2) pa_nil)))) (pe_cal c_lw_due (hr.mono (by decide)) (by rfl) pass0 (pa_cons (pv 5) (pa_cons (pv 0) (pa_cons (pe_lst (pa_cons (pv 2) (pa_cons pe_int pa_nil))) pa_nil)))) (nomark _))
          (pss_one (ps_ret pe_bl))
          pss_nil))
        pss_nil)
        (pss_one (ps_if (pt_cut (PW.pt (pw_or (pt_cmpR op_ne (pe_ix ix_list (pv 0) pe_int (fun _ _ => rfl)) pe_int (nomark _)) (pw_or1 (pt_cmpR op_lt (pv 5) pe_int (nomark _))))))
        (pss_one (ps_if (pt_cmpR (op_neD hr.units) (pe_cal c_lw_done (hr.mono (by decide)) (by rfl) pass0 (pa_cons (pv 5) (pa_cons (pv 2) (pa_cons (pv 3) pa_nil)))) (pe_cal c_lw_due (hr.mono (by decide)) (by rfl) pass0 (pa_cons (pv 5) (pa_cons (pe_lst (pa_cons (pv 2) (pa_cons pe_int pa_nil))) (pa_cons (pv 0) pa_nil)))) (nomark _))
          (pss_one (ps_ret pe_bl))
          pss_nil))
        pss_nil)))))
      (pss_cons (ps_if (PW.pt (pw_or (pt_cmpR (op_neD hr.units) (pe_cal c_lw_parts (hr.mono (by decide)) (by rfl) pass0 (pa_cons (pe_un (un_cal M.neg (hr.mono (by decide)) pass0) (pv 3)) pa_nil)) (pe_cal c_lw_lowest (hr.mono (by decide)) (by rfl) pass0 (pa_cons (pe_un un_neg (pe_ix ix_list (pv 0) pe_int (fun _ _ => rfl))) (pa_cons (pe_ix ix_list (pv 0) pe_int (fun _ _ => rfl)) pa_nil))) (nomark _)) (pw_or1 (pt_cmpR op_ne (pe_calM0 M.floor (hr.mono (by decide)) pass0 (pv 3)) (pe_op op_fdivG (pe_ix ix_list (pv 0) pe_int (fun _ _ => rfl)) (pe_ix ix_list (pv 0) pe_int (fun _ _ => rfl))) (nomark _)))))
      (pss_one (ps_ret pe_bl))
      pss_nil)
      (pss_cons (ps_if (pt_cmpR (op_neD hr.units) (pe_cal c_lw_parts (hr.mono (by decide)) (by rfl) pass0 (pa_cons (pv 3) pa_nil)) (pe_cal c_lw_lowest (hr.mono (by decide)) (by rfl) pass0 (pa_cons (pe_ix ix_list (pv 0) pe_int (fun _ _ => rfl)) (pa_cons (pe_ix ix_list (pv 0) pe_int (fun _ _ => rfl)) pa_nil))) (nomark _))
      (pss_one (ps_ret pe_bl))
      pss_nil)
      (pss_one (ps_ret (pe_cmpR (op_eqD hr.units) (pe_cal c_lw_parts (hr.mono (by decide)) (by rfl) pass0 (pa_cons (pe_callB (abs_cal M.abs (hr.mono (by decide)) pass0) (by rfl) T.abs (by decide +kernel) (pa_cons (pv 3) pa_nil)) pa_nil)) (pe_cal c_lw_lowest (hr.mono (by decide)) (by rfl) pass0 (pa_cons (pe_callB call_abs (by rfl) T.abs (by decide +kernel) (pa_cons (pe_ix ix_list (pv 0) pe_int (fun _ _ => rfl)) pa_nil)) (pa_cons (pe_callB call_abs (by rfl) T.abs (by decide +kernel) (pa_cons (pe_ix ix_list (pv 0) pe_int (fun _ _ => rfl)) pa_nil)) pa_nil))) (nomark _)))))))), ?_⟩
    have hu : u ≠ 0 := hq.ne
    have hd : d ≠ 0 := hr'.ne
    have u9 : u.natAbs < 2 ^ 9000 := lt_up hq.u (by decide)
    have d9 : d.natAbs < 2 ^ 9000 := lt_up hr'.u (by decide)
    have zq := hq.low
    have zr := hr'.low
    have zm : Sz 4000 (m, 1) := ⟨by show (1 : Int) ≠ 0; decide, hm, by show (1 : Int).natAbs < 2 ^ 4000; exact Nat.one_lt_two_pow (by decide)⟩
    refine ⟨_, rfl, a, _, _, _, rfl, rfl, ha, rfl, _, rfl, a, _, _, _, rfl, rfl, ha, rfl, ?_⟩
    intro xa dxa hxa1 hxa2 hxa3
    refine mk_shI hu u9 hxa1 hxa2 hxa3 fun H1 e1 hx1 => ⟨rfl, ?_⟩
    refine ⟨_, rfl, b, _, _, _, rfl, rfl, e1.seq hb, rfl, _, rfl, b, _, _, _, rfl, rfl, e1.seq hb, rfl, ?_⟩
    intro ya dya hya1 hya2 hya3
    refine mk_shI hd d9 hya1 hya2 hya3 fun H2 e2 hy => ⟨rfl, ?_⟩
    generalize V.ref xa = x at hx1 ⊢
    generalize V.ref ya = y at hy ⊢
    have hx : Sh C H2 x (low t u) := hx1.mono e2
    have e02 := e1.trans e2
    refine ⟨_, _, rfl, ?_⟩
    refine ⟨4, rfl, by decide, by decide, for_range (lo := 0) (n := 4) (fun i σ H' => ∃ o, σ = [some (.ref a), some (.ref b), some (.int m), some x, some y, o] ∧ Same H2 H') ⟨_, rfl, Same.refl _⟩ ?_ ?_⟩
    · rintro i σ H3 hi ⟨o, rfl, e3⟩
      have w0 : (0 : Int) ≤ 0 + (i : Int) := by omega
      have w4 : (0 : Int) + (i : Int) < 4 := by omega
      refine ⟨fun σ' H' => σ' = [some (.ref a), some (.ref b), some (.int m), some x, some y, some (.int (0 + (i : Int)))] ∧ Same H2 H', ?_, ?_⟩
      · refine ⟨fun b' H' => H' = H3 ∧ (b' = true → Way (0 + (i : Int)) (c, d)), ?_, ?_⟩
        · refine ⟨_, rfl, b, _, _, _, rfl, rfl, (e02.trans e3).seq hb, rfl, rfl, _, rfl, iteND (fun hn => ?_) (fun hn => ?_)⟩
          · exact ⟨rfl, fun _ => Way.of_ne w0 w4 fun z => hn (by rw [show c = 0 from z])⟩
          · exact ⟨_, rfl, _, _, rfl, rfl, _, rfl, rfl, fun z => Way.of_lt w0 (of_decide_eq_true z)⟩
        · rintro b' H' ⟨rfl, hw⟩
          cases b' with
          | false => exact iteF ⟨rfl, e3⟩
          | true =>
            have W := hw rfl
            refine iteT ?_
            refine ⟨_, rfl, _, rfl, _, rfl, _, x, y, low t u, low c d, rfl, .inl (hx.mono e3), .inl (hy.mono e3), .inl (hx.mono e3), zq, zr, W.low hd, fun p H4 e4 hp h4 => ?_⟩
            refine ⟨_, rfl, _, rfl, _, rfl, _, a, b, (t, u), (c, d), rfl, ((e02.trans e3).trans e4).seq ha, ((e02.trans e3).trans e4).seq hb, hq, hr', W, fun p' H5 e5 hp' h5 => ?_⟩
            refine ⟨_, _, pair_dp (e5 _ _ h4), pair_dp h5, rfl, rfl, _, rfl, ?_⟩
            rw [done_due hu hd W, eqv_pair]
            exact iteF ⟨rfl, (e3.trans e4).trans e5⟩
      rintro σ H3 ⟨rfl, e3⟩
      refine ⟨fun σ' H' => σ' = [some (.ref a), some (.ref b), some (.int m), some x, some y, some (.int (0 + (i : Int)))] ∧ Same H2 H', ?_, ?_⟩
      · refine ⟨fun b' H' => H' = H3 ∧ (b' = true → Way (0 + (i : Int)) (m, 1)), ?_, ?_⟩
        · refine ⟨_, rfl, rfl, _, rfl, iteND (fun hn => ?_) (fun hn => ?_)⟩
          · exact ⟨rfl, fun _ => Way.of_ne w0 w4 fun z => hn (by rw [show m = 0 from z])⟩
          · exact ⟨_, rfl, _, _, rfl, rfl, _, rfl, rfl, fun z => Way.of_lt w0 (of_decide_eq_true z)⟩
        · rintro b' H' ⟨rfl, hw⟩
          cases b' with
          | false => exact iteF ⟨rfl, e3⟩
          | true =>
            have W := hw rfl
            have W' := W.low (by decide)
            refine iteT ?_
            refine ⟨_, rfl, _, rfl, _, rfl, _, x, .int m, low t u, (m, 1), rfl, .inl (hx.mono e3), .inr ⟨m, rfl, rfl⟩, .inl (hx.mono e3), zq, zm, W, fun p H4 e4 hp h4 => ?_⟩
            refine ⟨_, rfl, _, rfl, _, rfl, (by show 2 ≤ sizeLine; decide), fun l hl => ?_⟩
            refine ⟨_, a, l, (t, u), (m, 1), rfl, (((e02.trans e3).trans e4).trans (Same.upd hl)).seq ha, SqL.of upd_same, hq, zm, W, fun p' H5 e5 hp' h5 => ?_⟩
            refine ⟨_, _, pair_dp (e5 _ _ (Same.upd hl _ _ h4)), pair_dp h5, rfl, rfl, _, rfl, ?_⟩
            have e := done_due (w := 0 + (i : Int)) (t := t) (u := u) (c := m) (d := 1) hu (by decide) W
            rw [low_one] at e
            rw [e, eqv_pair]
            exact iteF ⟨rfl, ((e3.trans e4).trans (Same.upd hl)).trans e5⟩
      rintro σ H3 ⟨rfl, e3⟩
      refine ⟨fun b' H' => H' = H3 ∧ (b' = true → Way (0 + (i : Int)) (t, u)), ?_, ?_⟩
      · refine ⟨_, rfl, a, _, _, _, rfl, rfl, (e02.trans e3).seq ha, rfl, rfl, _, rfl, iteND (fun hn => ?_) (fun hn => ?_)⟩
        · exact ⟨rfl, fun _ => Way.of_ne w0 w4 fun z => hn (by rw [show t = 0 from z])⟩
        · exact ⟨_, rfl, _, _, rfl, rfl, _, rfl, rfl, fun z => Way.of_lt w0 (of_decide_eq_true z)⟩
      · rintro b' H' ⟨rfl, hw⟩
        cases b' with
        | false => exact iteF ⟨_, rfl, e3⟩
        | true =>
          have W := hw rfl
          refine iteT ?_
          refine ⟨_, rfl, _, rfl, _, rfl, _, .int m, x, (m, 1), low t u, rfl, .inr ⟨m, rfl, rfl⟩, .inl (hx.mono e3), .inr (hx.mono e3), zm, zq, W.low hu, fun p H4 e4 hp h4 => ?_⟩
          refine ⟨_, rfl, _, rfl, (by show 2 ≤ sizeLine; decide), fun l hl => ?_⟩
          refine ⟨_, rfl, _, l, a, (m, 1), (t, u), rfl, SqL.of upd_same, (((e02.trans e3).trans e4).trans (Same.upd hl)).seq ha, zm, hq, W, fun p' H5 e5 hp' h5 => ?_⟩
          refine ⟨_, _, pair_dp (e5 _ _ (Same.upd hl _ _ h4)), pair_dp h5, rfl, rfl, _, rfl, ?_⟩
          have e := done_due (w := 0 + (i : Int)) (t := m) (u := 1) (c := t) (d := u) (by decide) hu W
          rw [low_one] at e
          rw [e, eqv_pair]
          exact iteF ⟨_, rfl, ((e3.trans e4).trans (Same.upd hl)).trans e5⟩
    · rintro σ H3 ⟨o, rfl, e3⟩
      have e03 := e02.trans e3
      have hx3 := hx.mono e3
      obtain ⟨ax, dx, rfl, hax⟩ := id hx3
      -- minus, floor
      refine ⟨_, rfl, hx3.ins, _, _, rfl, hx3, zq.up (by decide), fun v H4 e4 hv => ?_⟩
      refine ⟨v, _, rfl, hv, zq.neg.up (by decide), fun p H5 e5 hp h5 => ?_⟩
      have e05 := (e03.trans e4).trans e5
      refine ⟨_, rfl, a, _, _, _, rfl, rfl, e05.seq ha, rfl, _, rfl, _, rfl, a, _, _, _, rfl, rfl, e05.seq ha, rfl, _, _, rfl, hu, u9, fun p' H6 e6 hp' h6 => ?_⟩
      refine ⟨_, _, pair_dp (e6 _ _ h5), pair_dp h6, rfl, rfl, _, rfl, ?_⟩
      rw [show gNeg (low t u) = low (-t) u from low_neg hu, eqv_pair]
      refine iteF ?_
      have e06 := e05.trans e6
      have hx6 := ((hx3.mono e4).mono e5).mono e6
      refine ⟨_, rfl, ax, dx, _, rfl, ((e4.trans e5).trans e6) _ _ hax, shF_no _ _ _ (by decide) (by decide), _, _, rfl, hx6, zq.up (by decide), ?_⟩
      refine ⟨_, rfl, a, _, _, _, rfl, rfl, e06.seq ha, rfl, _, rfl, a, _, _, _, rfl, rfl, e06.seq ha, rfl, _, _, rfl, rfl, divG hu u9 (by decide) (by decide), rfl, _, rfl, ?_⟩
      have ef : (low t u).1.fdiv (low t u).2 = t.fdiv u := by rw [← low_floor hu, Int.fdiv_eq_ediv_of_nonneg _ (Int.le_of_lt (low_pos hu))]
      refine iteNS (congrArg V.int ef) ?_
      refine ⟨_, rfl, _, _, rfl, hx6, zq.up (by decide), fun p7 H7 e7 hp7 h7 => ?_⟩
      have e07 := e06.trans e7
      refine ⟨_, rfl, a, _, _, _, rfl, rfl, e07.seq ha, rfl, _, rfl, a, _, _, _, rfl, rfl, e07.seq ha, rfl, _, _, rfl, hu, u9, fun p8 H8 e8 hp8 h8 => ?_⟩
      refine ⟨_, _, pair_dp (e8 _ _ h7), pair_dp h8, rfl, rfl, _, rfl, ?_⟩
      rw [eqv_pair]
      refine iteF ?_
      have e08 := e07.trans e8
      have hx8 := (hx6.mono e7).mono e8
      refine ⟨_, rfl, _, rfl, hx8.ins, _, _, rfl, hx8, zq.up (by decide), fun v9 H9 e9 hv9 => ?_⟩
      refine ⟨v9, _, rfl, hv9, ?_, fun pa Ha ea hpa h10 => ?_⟩
      · refine Sz.of_low zq.ne ?_ (lt_up zq.u (by decide))
        rw [iabs_eq, Int.natAbs_natCast]
        exact lt_up zq.t (by decide)
      have e0a := (e08.trans e9).trans ea
      refine ⟨_, rfl, a, _, _, _, rfl, rfl, e0a.seq ha, rfl, _, rfl, _, rfl, a, _, _, _, rfl, rfl, e0a.seq ha, rfl, _, rfl, _, _, rfl, ?_, ?_, fun pb Hb eb hpb hb' => ?_⟩
      · split <;> omega
      · refine Nat.lt_of_le_of_lt ?_ u9
        split <;> omega
      refine ⟨_, _, pair_dp (eb _ _ h10), pair_dp hb', rfl, rfl, ?_⟩
      rw [show gAbs (low t u) = low (iabs t) (iabs u) from low_abs hu]
      show Q (.bl (PyData.eqv (.list [.int (low (iabs t) (iabs u)).1, .int (low (iabs t) (iabs u)).2]) (.list [.int (low (iabs t) (iabs u)).1, .int (low (iabs t) (iabs u)).2]))) Hb
      rw [eqv_pair]
      exact k _ (e0a.trans eb)
end
end Ps

/-! k01: the law. -/
namespace Ps
open PySem PySem.Spec PyProof.Rows PySem.W L2

/-- all but p is as it was -/
def Keep (p : Addr) (H H' : Hp) : Prop := ∀ b, b ≠ p → ∀ o, H b = some o → H' b = some o
theorem Keep.refl (p : Addr) (H : Hp) : Keep p H H := fun _ _ _ h => h
theorem Keep.trans {p : Addr} {H H1 H2 : Hp} (a : Keep p H H1) (b : Keep p H1 H2) : Keep p H H2 := fun c hc o h => b c hc o (a c hc o h)
theorem Keep.of_same {p : Addr} {H H1 : Hp} (a : Same H H1) : Keep p H H1 := fun c hc o h => a c o h
theorem Keep.of_eq {p : Addr} {H H1 : Hp} (a : ∀ b, b ≠ p → H1 b = H b) : Keep p H H1 := fun c hc o h => by rw [a c hc]; exact h
theorem Keep.same {p : Addr} {H0 H H1 : Hp} (e : Same H0 H) (hp : H0 p = none) (a : Keep p H H1) : Same H0 H1 := fun b o h => a b (ne_of_none h hp) o (e b o h)
theorem Pool.new {H : Hp} {p q l : Addr} {ms : List Int} {i : Nat} {o : HO} (P : Pool H p q ms i) (hl : H l = none) : Pool (upd H l o) p q ms i :=
  ⟨by rw [upd_ne (ne_of_none P.at_ hl)]; exact P.at_, by rw [upd_ne (ne_of_none P.nums hl)]; exact P.nums, P.len, P.few⟩
theorem Pool.put {H : Hp} {p q l : Addr} {ms : List Int} {i : Nat} {o : HO} (P : Pool H p q ms i) (h1 : l ≠ p) (h2 : l ≠ q) : Pool (upd H l o) p q ms i :=
  ⟨by rw [upd_ne h1.symm]; exact P.at_, by rw [upd_ne h2.symm]; exact P.nums, P.len, P.few⟩
theorem Keep.put {p D : Addr} {H H1 : Hp} {o : HO} (k : Keep p H H1) (hD : H D = none) : Keep p H (upd H1 D o) := fun b hb u h => by
  rw [upd_ne (ne_of_none h hD)]
  exact k b hb u h
def spLaw (K : Frag) : Sp := fun vs H Q _ => ∃ (a : Addr) (ns : List Int), vs = [.ref a] ∧ SqL K H a (ns.map V.int) ∧ ns.length ≤ 63 ∧ ∀ H', Q (.bl true) H'
theorem small4000 {i : Int} (h : i.natAbs ≤ 1000) : i.natAbs < 2 ^ 4000 := lt_up (m := 10) (by omega) (by decide)
theorem two_of {ts : List Int} (h : ts.length = 2) : ∃ a b, ts = [a, b] := by
  match ts, h with
  | [a, b], _ => exact ⟨a, b, rfl⟩

section
variable {Z : Cz} {f C : Addr} {fd : FuncData}
theorem ok_law (F : Fun Z.K "law" "law" s_lw_law f fd) (T : DrT Z)
    (c_lw_opened : Cal Z CX0 3 "_law_opened" ["_law_script", "_law_k", "_law_many"] [] (spOpened Z.K)) (c_lw_draw : Cal Z CX0 1 "_law_draw" ["_law_pool_here", "_law_many"] [] spDraw)
    (c_lw_right : Cal Z CX0 8 "_law_right" ["_law_one", "_law_other", "_law_more"] [] (spRight Z.K)) : Z.ok CX0 9 f fd ["_law_script"] (spLaw Z.K) := by
  refine F.ok sc_lw_law (fun vs H Q E h => ?_) (fun cdv A outer s H vs Q E hr h => ?_)
  · obtain ⟨a, ns, rfl, _⟩ := h
    rfl
  · obtain ⟨a, ns, rfl, hS, hl, k⟩ := h
    refine ⟨_, (pss_cons (ps_for PassesOwn.never rfl (pi_range1 (by rfl) T.range (pa_cons (pe_callB (call_max2 rfl) (by rfl) T.max (by decide +kernel) (pa_cons pe_int (pa_cons (pe_callB (call_min2 rfl) (by rfl) T.min (by decide +kernel) (pa_cons (pe_callB call_len_seq (by rfl) T.len PySem.boot_len (pa_cons (pv 0) pa_nil)) (pa_cons pe_int pa_nil))) pa_nil))) pa_nil)) (pg_name (i := 1) sc_lw_law.nd rfl (Or.inl rfl))
      (pss_cons (ps_set (i := 2) sc_lw_law.nd rfl (Or.inr rfl) (pe_cal c_lw_opened (hr.mono (by decide)) (by rfl) pass0 (pa_cons (pv 0) (pa_cons (pv 1) (pa_cons pe_int pa_nil)))))
        (pss_cons (ps_setLc (i := 3) (own := [("_law_turn", 4)]) (g := gName 4) (tt := tYes) (by rfl) sc_lw_law.nd rfl rfl (sw_true rfl rfl rfl (by decide +kernel)) (pi_range1 (by rfl) T.range (pa_cons pe_int pa_nil)) (blkOk_by (own := [("_law_turn", 4)]) (N := ["_law_script", "_law_k", "_law_pool_here", "_law_tops", "_law_turn", "_law_unders", "_law_more"]) (sc := defScope s_lw_law) (by decide +kernel)) (fun _ _ _ _ _ => (pg_name (i := 4) sc_lw_law.nd rfl (Or.inl rfl))) (fun _ _ _ _ _ => pts_nil) (fun _ _ _ _ _ => (pe_op op_sub (pe_cal c_lw_draw (hr.mono (by decide)) (by rfl) pass0 (pa_cons (pv 2) (pa_cons pe_int pa_nil))) pe_int)))
        (pss_cons (ps_setLc (i := 5) (own := [("_law_turn", 4)]) (g := gName 4) (tt := tYes) (by rfl) sc_lw_law.nd rfl rfl (sw_true rfl rfl rfl (by decide +kernel)) (pi_range1 (by rfl) T.range (pa_cons pe_int pa_nil)) (blkOk_by (own := [("_law_turn", 4)]) (N := ["_law_script", "_law_k", "_law_pool_here", "_law_tops", "_law_turn", "_law_unders", "_law_more"]) (sc := defScope s_lw_law) (by decide +kernel)) (fun _ _ _ _ _ => (pg_name (i := 4) sc_lw_law.nd rfl (Or.inl rfl))) (fun _ _ _ _ _ => pts_nil) (fun _ _ _ _ _ => (pe_op op_mul (pe_op op_add (pe_cal c_lw_draw (hr.mono (by decide)) (by rfl) pass0 (pa_cons (pv 2) (pa_cons pe_int pa_nil))) pe_int) (pe_ix (show IxR _ (rIxL Z.K) from ix_list) (pe_lst (pa_cons pe_int (pa_cons (pe_un un_neg pe_int) pa_nil))) (pe_cal c_lw_draw (hr.mono (by decide)) (by rfl) pass0 (pa_cons (pv 2) (pa_cons pe_int pa_nil))) (fun _ _ => rfl)))))
        (pss_cons (ps_set (i := 6) sc_lw_law.nd rfl (Or.inl rfl) (pe_op op_sub (pe_cal c_lw_draw (hr.mono (by decide)) (by rfl) pass0 (pa_cons (pv 2) (pa_cons pe_int pa_nil))) pe_int))
        (pss_one (ps_if (pt_not (pt_val (pe_cal c_lw_right (hr.mono (by decide)) (by rfl) pass0 (pa_cons (pe_lst (pa_cons (pe_ix ix_list (pv 3) pe_int (fun _ _ => rfl)) (pa_cons (pe_ix ix_list (pv 5) pe_int (fun _ _ => rfl)) pa_nil))) (pa_cons (pe_lst (pa_cons (pe_ix ix_list (pv 3) pe_int (fun _ _ => rfl)) (pa_cons (pe_ix ix_list (pv 5) pe_int (fun _ _ => rfl)) pa_nil))) (pa_cons (pv 6) pa_nil))))))
        (pss_one (ps_ret pe_bl))
        pss_nil)))))))
      (pss_one (ps_ret pe_bl))), ?_⟩
    have hln : (ns.map V.int).length = ns.length := List.length_map ..
    refine ⟨_, rfl, a, _, rfl, .inl hS, _, _, rfl, _, _, rfl, _, rfl, ?_, ?_, for_range (lo := 0) (fun i σ H' => ∃ o1 o2 o3 o4 o5, σ = [some (.ref a), o1, o2, o3, none, o4, o5] ∧ Same H H') ⟨_, _, _, _, _, rfl, Same.refl _⟩ ?_ ?_⟩
    · split <;> split <;> omega
    · split <;> split <;> omega
    · rintro i σ H1 hi ⟨o1, o2, o3, o4, o5, rfl, e1⟩
      have hi' : i < ns.length ∨ (ns = [] ∧ i = 0) := by
        cases ns with
        | nil => exact .inr ⟨rfl, by simp at hi; omega⟩
        | cons n r =>
          refine .inl ?_
          simp only [List.length_map, List.length_cons] at hi ⊢
          revert hi
          split <;> split <;> omega
      have hi8 : i ≤ 1000 := by
        rcases hi' with h | h
        · omega
        · omega
      rw [Int.zero_add]
      refine ⟨_, rfl, _, rfl, a, ns, i, 8, rfl, e1.seq hS, hi', hi8, by decide, by decide, fun p q H2 ms e2 hp hq P2 => ?_⟩
      have hp0 : H p = none := e1.free hp
      have e02 := e1.trans e2
      -- tops
      refine ⟨2, rfl, by decide, by decide, fun D hD => lc_range (lo := 0) (n := 2) (fun j H' => ∃ ts : List Int, H' D = some (.lst (ts.map V.int)) ∧ ts.length = j ∧ (∀ t ∈ ts, t.natAbs ≤ 30) ∧ Pool H' p q ms j ∧ Keep p H2 H') ⟨[], upd_same, rfl, (fun t h => by cases h), P2.new hD, (Keep.refl _ _).put hD⟩ ?_ ?_⟩
      · rintro j H3 hj ⟨ts, hD3, hl3, hb3, P3, k3⟩
        refine ⟨rfl, ?_⟩
        refine ⟨_, rfl, p, q, ms, j, 61, rfl, P3, by decide, by omega, fun r H4 h0 h1 h4 P4 => ?_⟩
        have hDp : D ≠ p := (ne_of_none P2.at_ hD).symm
        have hDq : D ≠ q := (ne_of_none P2.nums hD).symm
        refine ⟨_, _, rfl, rfl, _, by rw [h4 D hDp]; exact hD3, ?_, ts ++ [r - 30], ?_, ?_, ?_, P4.put hDp hDq, (k3.trans (Keep.of_eq h4)).put hD⟩
        · rw [List.length_map]; exact small1000' (by omega)
        · rw [upd_same, List.map_append]; rfl
        · rw [List.length_append, hl3]; rfl
        · intro t ht
          rcases List.mem_append.mp ht with h | h
          · exact hb3 t h
          · rw [List.mem_singleton.mp h]; omega
      rintro H3 ⟨ts, hD3, hl3, hb3, P3, k3⟩
      obtain ⟨t0, t1, rfl⟩ := two_of hl3
      have b0 := hb3 t0 (by simp)
      have b1 := hb3 t1 (by simp)
      -- unders
      refine ⟨2, rfl, by decide, by decide, fun U hU => lc_range (lo := 0) (n := 2) (fun j H' => ∃ us : List Int, H' U = some (.lst (us.map V.int)) ∧ us.length = j ∧ (∀ t ∈ us, t.natAbs ≤ 30 ∧ t ≠ 0) ∧ Pool H' p q ms (2 + j + j) ∧ Keep p H3 H') ⟨[], upd_same, rfl, (fun t h => by cases h), P3.new hU, (Keep.refl _ _).put hU⟩ ?_ ?_⟩
      · rintro j H4 hj ⟨us, hU4, hl4, hb4, P4, k4⟩
        have hUp : U ≠ p := (ne_of_none P3.at_ hU).symm
        have hUq : U ≠ q := (ne_of_none P3.nums hU).symm
        refine ⟨rfl, ?_⟩
        refine ⟨_, rfl, p, q, ms, _, 30, rfl, P4, by decide, by omega, fun r H5 h0 h1 h5 P5 => ?_⟩
        refine ⟨_, _, rfl, rfl, _, rfl, (by show 2 ≤ sizeLine; decide), fun l hl5 => ?_⟩
        have hlp : l ≠ p := (ne_of_none P5.at_ hl5).symm
        refine ⟨_, rfl, p, q, ms, _, 2, rfl, P5.new hl5, by decide, by omega, fun r2 H6 g0 g1 h6 P6 => ?_⟩
        have hl6 : H6 l = some (.lst [.int 1, .int (-1)]) := by rw [h6 l hlp]; exact upd_same
        have fin : ∀ z : Int, (z = 1 ∨ z = -1) → ∃ (us' : List Int), (upd H6 U (.lst (us.map V.int ++ [.int ((r + 1) * z)]))) U = some (.lst (us'.map V.int)) ∧ us'.length = j + 1 ∧ (∀ t ∈ us', t.natAbs ≤ 30 ∧ t ≠ 0) ∧ Pool (upd H6 U (.lst (us.map V.int ++ [.int ((r + 1) * z)]))) p q ms (2 + (j + 1) + (j + 1)) ∧ Keep p H3 (upd H6 U (.lst (us.map V.int ++ [.int ((r + 1) * z)]))) := by
          intro z hz
          refine ⟨us ++ [(r + 1) * z], ?_, ?_, ?_, ?_, ?_⟩
          · rw [upd_same, List.map_append]; rfl
          · rw [List.length_append, hl4]; rfl
          · intro t ht
            rcases List.mem_append.mp ht with h | h
            · exact hb4 t h
            · rw [List.mem_singleton.mp h]
              rcases hz with rfl | rfl <;> omega
          · have e : 2 + (j + 1) + (j + 1) = 2 + j + j + 1 + 1 := by omega
            rw [e]
            exact P6.put hUp hUq
          · exact (((k4.trans (Keep.of_eq h5)).trans (Keep.of_same (Same.upd hl5))).trans (Keep.of_eq h6)).put hU
        have hU6 : H6 U = some (.lst (us.map V.int)) := by
          have hU5 : H5 U = some (.lst (us.map V.int)) := by rw [h5 U hUp]; exact hU4
          rw [h6 U hUp, upd_ne (ne_of_none hU5 hl5)]
          exact hU5
        have hsz : (us.map V.int).length < sizeLine := by rw [List.length_map]; exact small1000' (by omega)
        rcases (show r2 = 0 ∨ r2 = 1 by omega) with rfl | rfl
        · exact ⟨l, _, _, _, rfl, rfl, SqL.of hl6, rfl, _, _, rfl, rfl, .inl ⟨by omega, by omega⟩, _, hU6, hsz, fin 1 (.inl rfl)⟩
        · exact ⟨l, _, _, _, rfl, rfl, SqL.of hl6, rfl, _, _, rfl, rfl, .inl ⟨by omega, by omega⟩, _, hU6, hsz, fin (-1) (.inr rfl)⟩
      rintro H4 ⟨us, hU4, hl4, hb4, P4, k4⟩
      obtain ⟨u0, u1, rfl⟩ := two_of hl4
      have d0 := hb4 u0 (by simp)
      have d1 := hb4 u1 (by simp)
      have hDp : D ≠ p := (ne_of_none P2.at_ hD).symm
      have hUp : U ≠ p := (ne_of_none P3.at_ hU).symm
      refine ⟨_, rfl, p, q, ms, _, 19, rfl, P4, by decide, by decide, fun r H5 h0 h1 h5 P5 => ?_⟩
      refine ⟨_, _, rfl, rfl, ?_⟩
      have hD5 : H5 D = some (.lst ([t0, t1].map V.int)) := by rw [h5 D hDp]; exact k4 D hDp _ hD3
      have hU5 : H5 U = some (.lst ([u0, u1].map V.int)) := by rw [h5 U hUp]; exact hU4
      have e05 : Same H H5 := Keep.same e02 hp0 ((k3.trans k4).trans (Keep.of_eq h5))
      refine ⟨_, rfl, D, _, _, _, rfl, rfl, SqL.of hD5, rfl, _, rfl, U, _, _, _, rfl, rfl, SqL.of hU5, rfl, (by show 2 ≤ sizeLine; decide), fun l hl5 => ?_⟩
      have hD6 := Same.upd (o := .lst (pair (t0, u0))) hl5 _ _ hD5
      have hU6 := Same.upd (o := .lst (pair (t0, u0))) hl5 _ _ hU5
      refine ⟨_, rfl, D, _, _, _, rfl, rfl, SqL.of hD6, rfl, _, rfl, U, _, _, _, rfl, rfl, SqL.of hU6, rfl, (by show 2 ≤ sizeLine; decide), fun l2 hl6 => ?_⟩
      refine ⟨_, rfl, l, l2, r - 9, (t0, u0), (t1, u1), rfl, SqL.of (Same.upd hl6 _ _ upd_same), SqL.of upd_same, ⟨d0.2, small4000 (by show t0.natAbs ≤ 1000; omega), small4000 (by show u0.natAbs ≤ 1000; omega)⟩, ⟨d1.2, small4000 (by show t1.natAbs ≤ 1000; omega), small4000 (by show u1.natAbs ≤ 1000; omega)⟩, small4000 (by omega), fun H7 e7 => ?_⟩
      refine ⟨_, rfl, iteF ?_⟩
      exact ⟨_, _, _, _, _, rfl, ((e05.trans (Same.upd hl5)).trans (Same.upd hl6)).trans e7⟩
    · rintro σ H1 _
      exact k _
end
end Ps

/-! A head by facts: defs by where they stand (a global, a method, a property's getter, a static method), one Bool for all else. -/
namespace Ps
open PySem PySem.Spec PyProof.Rows PySem.W L2 He

inductive At where
  | g (x : Str)
  | m (x m : Str)
  | p (x m : Str)
  | ps (x m : Str)
  | sm (x m : Str)
def rec0 (K : Frag) (p : Addr) (T : String) : Addr := match recIn K p T with
  | some (.ref g :: _) => g
  | _ => 0
def rec1 (K : Frag) (p : Addr) (T : String) : Addr := match recIn K p T with
  | some (_ :: .ref g :: _) => g
  | _ => 0
def At.a (K : Frag) : At → Addr
  | .g x => ga K x
  | .m x n => ma K (ga K x) n
  | .p x n => rec0 K (ma K (ga K x) n) "property"
  | .ps x n => rec1 K (ma K (ga K x) n) "property"
  | .sm x n => rec0 K (ma K (ga K x) n) "staticmethod"
def hdB (K : Frag) (p : Addr) (T : String) (g : Addr) : Bool := match recIn K p T with
  | some (.ref h :: _) => decide (h = g)
  | _ => false
theorem hdB_ok {K : Frag} {p g : Addr} {T : String} (h : hdB K p T g = true) : ∃ rest, recIn K p T = some (.ref g :: rest) := by
  unfold hdB at h
  split at h
  · rename_i a r e
    exact ⟨r, by rw [e, of_decide_eq_true h]⟩
  · cases h
def findB (K : Frag) (C : Addr) (m : Str) : Bool := eqO (findIn K (.ref C) m) (some (some (.ref (ma K C m))))
def At.ok (K : Frag) : At → Bool
  | .g x => eqO (nsIn K mainGlobals x) (some (some (.ref (ga K x))))
  | .m x n => findB K (ga K x) n && (isFn K (.ref (ma K (ga K x) n)) && selfFirst K (ga K x))
  | .p x n => findB K (ga K x) n && (eqO (specialIn K (.ref (ma K (ga K x) n)) "__get__") (some (some (.builtin "property.__get__"))) && (decide (takesIn K (.ref (ma K (ga K x) n)) = some true) && hdB K (ma K (ga K x) n) "property" (rec0 K (ma K (ga K x) n) "property")))
  | .ps x n => true
  | .sm x n => findB K (ga K x) n && hdB K (ma K (ga K x) n) "staticmethod" (rec0 K (ma K (ga K x) n) "staticmethod")
section
variable {K : Frag} {h : Heap} {mg : Str → Option Value} {x m : Str}
theorem At.glo (X : K.In h) (G : h.Ns mainGlobals mg) (c : (At.g x).ok K = true) : mg x = some (.ref (ga K x)) := mg_of X G (eqO_ok c)
theorem At.own (c : (At.m x m).ok K = true) : OwnOp K (ga K x) (ma K (ga K x) m) m := by
  obtain ⟨c1, c⟩ := ba c
  obtain ⟨c2, c3⟩ := ba c
  exact ⟨c3, eqO_ok c1, c2⟩
theorem At.meth (c : (At.m x m).ok K = true) (k : keepIn K (.ref (ma K (ga K x) m)) = true) : Meth K (ga K x) m (ma K (ga K x) m) := by
  obtain ⟨c1, c⟩ := ba c
  obtain ⟨c2, c3⟩ := ba c
  exact ⟨eqO_ok c1, c2, k⟩
theorem At.prop (c : (At.p x m).ok K = true) : PropOf K (ga K x) m (ma K (ga K x) m) (rec0 K (ma K (ga K x) m) "property") := by
  obtain ⟨c1, c⟩ := ba c
  obtain ⟨c2, c⟩ := ba c
  obtain ⟨c3, c4⟩ := ba c
  exact ⟨eqO_ok c1, eqO_ok c2, of_decide_eq_true c3, hdB_ok c4⟩
end
structure DefP where
  at_ : At
  name : Str
  qual : Str
  st : Stmt
  dfl : List Dv := []
def fnP (K : Frag) (a : Addr) : FnW := match K.lookup a with
  | some ⟨_, _, .func fd, _⟩ => some (fd.name, fd.qualname, fd.params, fd.body, fd.scope, fd.globals, fd.closure, fd.builtins)
  | _ => none
def DefP.val (d : DefP) : FnW := some (d.name, d.qual, defArgs d.st, .stmts (defBody d.st), defScope d.st, mainGlobals, [], builtinsNs)
def DefP.dvs (K : Frag) (d : DefP) : List V := d.dfl.map (Dv.v K)
def DefP.ok (K : Frag) (d : DefP) : Bool := d.at_.ok K && (keepIn K (.ref (d.at_.a K)) && (match K.lookup (d.at_.a K) with
  | some ⟨_, _, .func fd, _⟩ => codeIn K fd.code d.qual && dflB K fd.defaults (d.dvs K)
  | _ => false))
theorem DefP.funD {K : Frag} {d : DefP} (e : fnP K (d.at_.a K) = d.val) (c : d.ok K = true) : d.at_.ok K = true ∧ ∃ fd, FunD K d.name d.qual (defArgs d.st) (defBody d.st) (defScope d.st) (d.dvs K) [] (d.at_.a K) fd := by
  obtain ⟨ca, c⟩ := ba c
  obtain ⟨kp, c2⟩ := ba c
  refine ⟨ca, ?_⟩
  unfold fnP at e
  cases q : K.lookup (d.at_.a K) with
  | none =>
    rw [q] at c2
    cases c2
  | some o =>
    obtain ⟨oc, od, dt, osl⟩ := o
    rw [q] at c2 e
    cases dt with
    | func fd =>
      obtain ⟨n1, n2, n3, n4, n5, n6, n7, n8, n9, n10, n11, n12, n13, n14, n15⟩ := fd
      have e2 : (some (n1, n2, n3, n4, n5, n6, n7, n15) : FnW) = some (d.name, d.qual, defArgs d.st, .stmts (defBody d.st), defScope d.st, mainGlobals, [], builtinsNs) := e
      simp only [Option.some.injEq, Prod.mk.injEq] at e2
      obtain ⟨h1, h2, h3, h4, h5, h6, h7, h8⟩ := e2
      subst h1 h2 h3 h4 h5 h6 h7 h8
      have c3 : (codeIn K n13 d.qual && dflB K n8 (d.dvs K)) = true := c2
      obtain ⟨k1, k3⟩ := ba c3
      exact ⟨_, ⟨oc, od, n8, n9, n10, n11, n12, n13, n14, osl, rfl, q, k1, dflB_ok k3, .inl rfl⟩, kp⟩
    | _ => cases c2
/-- without defaults -/
theorem FunD.toFun {K : Frag} {x qual : Str} {st : Stmt} {f : Addr} {fd : FuncData} (F : FunD K x qual (defArgs st) (defBody st) (defScope st) [] [] f fd) : Fun K x qual st f fd := by
  obtain ⟨⟨oc, od, dV, kV, doc, pm, an, cdv, ct, osl, e, lk, hcd, hD, hK⟩, kp⟩ := F
  rcases hD with ⟨_, rfl⟩ | ⟨z, _⟩
  · exact ⟨⟨oc, od, kV, doc, pm, an, cdv, ct, osl, e, lk, hcd⟩, kp⟩
  · exact absurd rfl z
abbrev AlP : Type := Bool × List FnW
def obsP (fn : List DefP) (ex : Frag → Bool) (K : Frag) : AlP := (ex K && fn.all fun d => d.ok K, fn.map fun d => fnP K (d.at_.a K))
def valP (fn : List DefP) : AlP := (true, fn.map DefP.val)
def SaysP (fn : List DefP) (ex : Frag → Bool) (K : Frag) : Prop := obsP fn ex K = valP fn
def obsPG (n : Nat) (fn : List DefP) (ex : Frag → Bool) (g : Addr → Option Obj) : AlP := obsP fn ex (frG g (asD g n))
def hookP (n : Nat) (fn : List DefP) (ex : Frag → Bool) : Hook where
  α := AlP
  obs := fun s => obsPG n fn ex s.heap.get?
  val := fun _ => valP fn
  says := fun _ h => ∃ K : Frag, K.In h ∧ SaysP fn ex K
  of := fun _ _ e => ⟨_, frG_in, e⟩
  keeps := fun _ _ _ ⟨K, hK, c⟩ k => ⟨K, Frag.In.keeps hK k, c⟩
theorem obsPG_eq {n : Nat} {fn : List DefP} {ex : Frag → Bool} {g : Addr → Option Obj} {s : Shared} (h : ∀ a, g a = s.heap.get? a) : obsPG n fn ex g = (hookP n fn ex).obs s := by
  have e : g = s.heap.get? := funext h
  rw [e] <;> rfl
section
variable {fn : List DefP} {ex : Frag → Bool} {K : Frag}
theorem SaysP.more (c : SaysP fn ex K) : ex K = true := (ba (show (ex K && fn.all fun d => d.ok K) = true from congrArg (fun z : AlP => z.1) c)).1
theorem SaysP.def_ (c : SaysP fn ex K) (i : Nat) {d : DefP} (h : fn[i]? = some d := by rfl) : d.at_.ok K = true ∧ ∃ fd, FunD K d.name d.qual (defArgs d.st) (defBody d.st) (defScope d.st) (d.dvs K) [] (d.at_.a K) fd := by
  have c2 := (ba (show (ex K && fn.all fun d => d.ok K) = true from congrArg (fun z : AlP => z.1) c)).2
  have e : fn.map (fun d => fnP K (d.at_.a K)) = fn.map DefP.val := congrArg (fun z : AlP => z.2) c
  have e2 : (fn.map fun d => fnP K (d.at_.a K))[i]? = (fn.map DefP.val)[i]? := by rw [e]
  rw [List.getElem?_map, List.getElem?_map, h] at e2
  exact DefP.funD (Option.some.inj e2) (List.all_eq_true.mp c2 d (List.mem_of_getElem? h))
end
/-- the plain def at x: what is known of it -/
structure Got (K : Frag) (mg : Str → Option Value) (x : Str) (st : Stmt) (f : Addr) (fd : FuncData) : Prop where
  F : Fun K x x st f fd
  m : mg x = some (.ref f)
/-- the method m of class x -/
structure GotM (K : Frag) (C : Addr) (m qual : Str) (st : Stmt) (f : Addr) (fd : FuncData) : Prop where
  F : Fun K m qual st f fd
  o : OwnOp K C f m
structure GotP (K : Frag) (C : Addr) (m qual : Str) (st : Stmt) (p f : Addr) (fd : FuncData) : Prop where
  F : Fun K m qual st f fd
  o : PropOf K C m p f
section
variable {fn : List DefP} {ex : Frag → Bool} {K : Frag} {h : Heap} {mg : Str → Option Value} {x m qual : Str} {st : Stmt}
theorem SaysP.glo (c : SaysP fn ex K) (X : K.In h) (G : h.Ns mainGlobals mg) (i : Nat) (e : fn[i]? = some ⟨.g x, x, x, st, []⟩) : ∃ f fd, Got K mg x st f fd := by
  obtain ⟨a, fd, F⟩ := c.def_ i e
  exact ⟨_, fd, ⟨FunD.toFun F, At.glo X G a⟩⟩
theorem SaysP.meth (c : SaysP fn ex K) (i : Nat) (e : fn[i]? = some ⟨.m x m, m, qual, st, []⟩) : ∃ f fd, GotM K (ga K x) m qual st f fd := by
  obtain ⟨a, fd, F⟩ := c.def_ i e
  exact ⟨_, fd, ⟨FunD.toFun F, At.own a⟩⟩
theorem SaysP.prop (c : SaysP fn ex K) (i : Nat) (e : fn[i]? = some ⟨.p x m, m, qual, st, []⟩) : ∃ p f fd, GotP K (ga K x) m qual st p f fd := by
  obtain ⟨a, fd, F⟩ := c.def_ i e
  exact ⟨_, _, fd, ⟨FunD.toFun F, At.prop a⟩⟩
end
section
variable {Z : Cz} {CX : CXT} {k : Nat} {C : Addr} {ps : List Str} {sp : Sp} {x m qual : Str} {st : Stmt} {p f : Addr} {fd : FuncData}
theorem Got.cal (g : Got Z.K Z.mg x st f fd) (G : Z.ok CX k f fd ps sp) (b : Binds Z.K fd ps []) : Cal Z CX k x ps [] sp := ⟨f, fd, [], G, g.m, g.F.kp, b, .nil⟩
theorem GotM.calS (g : GotM Z.K C m qual st f fd) (G : Z.ok CX k f fd ps sp) (b : Binds Z.K fd ps []) : CalS Z CX k C m ps sp := ⟨f, fd, G, g.o, b⟩
theorem GotM.calM (g : GotM Z.K C m qual st f fd) (cl : Cls Z.K C) (G : Z.ok CX k f fd ps sp) (b : Binds Z.K fd ps []) : CalM Z CX k C m ps [] sp := ⟨f, fd, [], G, ⟨g.o.fn, g.o.isf, g.F.kp⟩, cl, b, .nil⟩
theorem GotP.calP (g : GotP Z.K C m qual st p f fd) (cl : Cls Z.K C) (G : Z.ok CX k f fd ["self"] sp) (b : Binds Z.K fd ["self"] []) : CalP Z CX k C m sp := ⟨p, f, fd, [], G, g.o, cl, b, .nil⟩
end
/-! ### Bools of further facts -/
def numB (K : Frag) (C : Addr) (nm : String) : Bool := findB K C (PySem.dunder nm) && (findB K C (dunderR nm) && ((findIn K (.type "int") (PySem.dunder nm)).isSome && ((findIn K (.type "int") (dunderR nm)).isSome && (decide (subIn K (.type "int") (.ref C) = some false) && decide (subIn K (.ref C) (.type "int") = some false)))))
theorem numB_ok {K : Frag} {C : Addr} {nm : String} (c : numB K C nm = true) : NumF K C nm := by
  obtain ⟨c1, c⟩ := ba c
  obtain ⟨c2, c⟩ := ba c
  obtain ⟨c3, c⟩ := ba c
  obtain ⟨c4, c⟩ := ba c
  obtain ⟨c5, c6⟩ := ba c
  exact ⟨⟨_, eqO_ok c1⟩, ⟨_, eqO_ok c2⟩, Option.isSome_iff_exists.mp c3, Option.isSome_iff_exists.mp c4, of_decide_eq_true c5, of_decide_eq_true c6⟩
def freeB (K : Frag) (xs : List Str) : Bool := xs.all fun x => eqO (nsIn K mainGlobals x) (some none)
theorem freeB_ok {K : Frag} {h : Heap} {mg : Str → Option Value} (X : K.In h) (G : h.Ns mainGlobals mg) {xs : List Str} (c : freeB K xs = true) {x : Str} (hx : x ∈ xs) : mg x = none := mg_none_of X G (eqO_ok (List.all_eq_true.mp c x hx))
end Ps

/-! Shares behind the top: facts by a Bool. -/
namespace Ps
open PySem PySem.Spec PyProof.Rows PySem.W L2 He

/-- a class of the text whose instances' types are asked -/
def ownB (K : Frag) (C : Addr) : Bool := eqO (findIn K (.ref C) "__class__") (some (some (.builtin "object.__class__"))) && (eqO (specialIn K (.builtin "object.__class__") "__get__") (some (some (.builtin "getset_descriptor.__get__"))) && (decide (takesIn K (.builtin "object.__class__") = some true) && decide (mroIn K C (.type "object") = some true)))
def shB (K : Frag) : Bool := (Fa.cls "Share").ok K && ((Fa.mkr "Share").ok K && ((Fa.noat "Share" "own_top").ok K && ((Fa.noat "Share" "own_under").ok K && ((Fa.glo "Share").ok K && (freeB K ["isinstance", "int", "bool", "abs", "len", "range", "max", "min"] && (ownB K (ga K "Share") &&
  (decide (kitOne K (.ref (ga K "Share")) (.ref (ga K "Share")) = some true) && (decide (kitOne K (.ref (ga K "Share")) (.type "int") = some false) && decide (kitOne K (.type "int") (.ref (ga K "Share")) = some false)))))))))
def numsB (K : Frag) : Bool := numB K (ga K "Share") "add" && (numB K (ga K "Share") "sub" && numB K (ga K "Share") "mul")
section
variable {K : Frag} {h : Heap} {mg : Str → Option Value}
theorem shB_ok {P : Program} {w : World} {base : Heap} (X : K.In h) (G : h.Ns mainGlobals mg) (c : shB K = true) : ShT ⟨P, w, K, mg, base⟩ (ga K "Share") ∧ DrT ⟨P, w, K, mg, base⟩ ∧ Mk K (ga K "Share") (ma K (ga K "Share") "__init__") := by
  obtain ⟨c1, c⟩ := ba c
  obtain ⟨c2, c⟩ := ba c
  obtain ⟨c3, c⟩ := ba c
  obtain ⟨c4, c⟩ := ba c
  obtain ⟨c5, c⟩ := ba c
  obtain ⟨c6, c⟩ := ba c
  obtain ⟨c7, c⟩ := ba c
  obtain ⟨c8, c⟩ := ba c
  obtain ⟨c9, c10⟩ := ba c
  obtain ⟨d1, d⟩ := ba c7
  obtain ⟨d2, d⟩ := ba d
  obtain ⟨d3, d4⟩ := ba d
  have f := fun {x : Str} (hx : x ∈ (["isinstance", "int", "bool", "abs", "len", "range", "max", "min"] : List Str)) => freeB_ok X G c6 hx
  exact ⟨⟨cls_ok c1, noat_ok c3, noat_ok c4, glo_ok X G c5, f (by simp), f (by simp), f (by simp), f (by simp), eqO_ok d1, eqO_ok d2, of_decide_eq_true d3, of_decide_eq_true d4, of_decide_eq_true c8, of_decide_eq_true c9, of_decide_eq_true c10⟩,
    ⟨f (by simp), f (by simp), f (by simp), f (by simp), f (by simp)⟩, mkr_ok c2⟩
end
/-- the shares' defs in the text -/
def fnSh : List DefP := [⟨.g "is_integer", "is_integer", "is_integer", s_is_integer, []⟩, ⟨.g "common", "common", "common", s_common, []⟩, ⟨.g "share_of_number", "share_of_number", "share_of_number", s_share_of_number, []⟩, ⟨.m "Share" "__init__", "__init__", "Share.__init__", s_Share_dd_init, [.int 1]⟩]
section
variable {Z : Cz} {h : Heap} {fn : List DefP} {ex : Frag → Bool}
/-- Share(..) -/
theorem mk_cals (X : Z.K.In h) (G : h.Ns mainGlobals Z.mg) (T : ShT Z (ga Z.K "Share")) (M : Mk Z.K (ga Z.K "Share") (ma Z.K (ga Z.K "Share") "__init__"))
    (g1 : ∃ f fd, Got Z.K Z.mg "is_integer" s_is_integer f fd) (g2 : ∃ f fd, Got Z.K Z.mg "common" s_common f fd)
    (g3 : ∃ fd, FunD Z.K "__init__" "Share.__init__" (defArgs s_Share_dd_init) (defBody s_Share_dd_init) (defScope s_Share_dd_init) [.int 1] [] (ma Z.K (ga Z.K "Share") "__init__") fd) :
    Cal Z CX0 1 "is_integer" ["value"] [] (spIsInt Z.K) ∧ CShare Z (ga Z.K "Share") ∧ CShare1 Z (ga Z.K "Share") := by
  obtain ⟨f1, fd1, g1⟩ := g1
  obtain ⟨f2, fd2, g2⟩ := g2
  obtain ⟨fd3, F3⟩ := g3
  have c1 := g1.cal (ok_is_integer g1.F T) (g1.F.binds fun _ _ _ _ _ _ us hl => match us, hl with | [_], _ => rfl)
  have c2 := g2.cal (ok_common g2.F T) (g2.F.binds fun _ _ _ _ _ _ us hl => match us, hl with | [_, _], _ => rfl)
  have k3 := ok_ShInit F3 T c1 c2
  obtain ⟨d1, v1, b1⟩ := FunD.binds1 (ps := ["self", "top", "under"]) F3 3 1 (by simp) rfl (fun T kV doc pm an cdv ct us its hl hi => match us, hl, its, hi with | [_, _, _], _, [_], _ => ⟨_, rfl, rfl⟩)
  obtain ⟨d2, v2, b2⟩ := FunD.binds1 (ps := ["self", "top", "under"]) F3 2 0 (by simp) rfl (fun T kV doc pm an cdv ct us its hl hi => match us, hl, its, hi with | [_, _], _, [_], _ => ⟨_, rfl, rfl⟩)
  exact ⟨c1, ⟨_, _, _, k3, M, T.mgC, b1, v1⟩, ⟨_, _, _, k3, M, T.mgC, b2, v2⟩⟩
end
end Ps

/-! k01: the end. -/
namespace Ps
open PySem PySem.Spec PyProof.Rows PySem.W L2 He

def fnAll : List DefP := [⟨.g "is_integer", "is_integer", "is_integer", s_is_integer, []⟩,
  ⟨.g "common", "common", "common", s_common, []⟩,
  ⟨.g "share_of_number", "share_of_number", "share_of_number", s_share_of_number, []⟩,
  ⟨.m "Share" "__init__", "__init__", "Share.__init__", s_Share_dd_init, [.int 1]⟩,
  ⟨.m "Share" "__add__", "__add__", "Share.__add__", s_Share_dd_add, []⟩,
  ⟨.m "Share" "__radd__", "__radd__", "Share.__radd__", s_Share_dd_radd, []⟩,
  ⟨.m "Share" "__sub__", "__sub__", "Share.__sub__", s_Share_dd_sub, []⟩,
  ⟨.m "Share" "__rsub__", "__rsub__", "Share.__rsub__", s_Share_dd_rsub, []⟩,
  ⟨.m "Share" "__mul__", "__mul__", "Share.__mul__", s_Share_dd_mul, []⟩,
  ⟨.m "Share" "__rmul__", "__rmul__", "Share.__rmul__", s_Share_dd_rmul, []⟩,
  ⟨.m "Share" "by", "by", "Share.by", s_Share_by, []⟩,
  ⟨.m "Share" "__neg__", "__neg__", "Share.__neg__", s_Share_dd_neg, []⟩,
  ⟨.m "Share" "__abs__", "__abs__", "Share.__abs__", s_Share_dd_abs, []⟩,
  ⟨.m "Share" "floor", "floor", "Share.floor", s_Share_floor, []⟩,
  ⟨.p "Share" "top", "top", "Share.top", s_Share_top, []⟩,
  ⟨.p "Share" "under", "under", "Share.under", s_Share_under, []⟩,
  ⟨.g "_law_numbers", "_law_numbers", "_law_numbers", s_lw_numbers, []⟩,
  ⟨.g "_law_pool", "_law_pool", "_law_pool", s_lw_pool, []⟩,
  ⟨.g "_law_draw", "_law_draw", "_law_draw", s_lw_draw, []⟩,
  ⟨.g "_law_opened", "_law_opened", "_law_opened", s_lw_opened, []⟩,
  ⟨.g "_law_lowest", "_law_lowest", "_law_lowest", s_lw_lowest, []⟩,
  ⟨.g "_law_parts", "_law_parts", "_law_parts", s_lw_parts, []⟩,
  ⟨.g "_law_due", "_law_due", "_law_due", s_lw_due, []⟩,
  ⟨.g "_law_done", "_law_done", "_law_done", s_lw_done, []⟩,
  ⟨.g "_law_right", "_law_right", "_law_right", s_lw_right, []⟩,
  ⟨.g "law", "law", "law", s_lw_law, []⟩]
def exAll (K : Frag) : Bool := shB K && numsB K
abbrev Rw : OpenRow := OpenLaw.row PySem.Challenge.rw_planswitches_k01_shares_reckoned
abbrev hk : Hook := hookP 6 fnAll exAll
def ob (s : SharedT) : AlP := obsPG 6 fnAll exAll (HandSHeadRun.getT s)
theorem ob_eq (s : SharedT) : ob s = hk.obs s.abs := obsPG_eq (HandSHeadRun.getT_eq s)
def loose : List PySem.Str := (["_wall", "__name__", "PlanError", "BadShare", "DividedByNothing", "is_integer", "common", "share_of_number", "is_number", "Share", "_law_numbers", "_law_pool", "_law_draw", "_law_opened", "_law_lowest", "_law_parts", "_law_due", "_law_done", "_law_right"] : List PySem.Str)
theorem run (w : World) : HandSHeadRun.RunEq Rw (view Rw.prog [21]) hk ob 6000 loose w := by
  intro os
  kernel_rfl
theorem facts {P : Program} {w : World} {K : Frag} {h : Heap} {mg : Str → Option Value} {f : Addr} (X : K.In h) (G : h.Ns mainGlobals mg) (hfa : mg ("law" : Str) = some (.ref f)) (c : SaysP fnAll exAll K) :
    ∃ fd : FuncData, (∀ (s : Shared) (v : Value), BindsTo s fd ⟨[v], []⟩ [("_law_script", v)]) ∧ ∀ base : Heap, K.In base → base.Ns mainGlobals mg → FnOk P w K mg base CX0 9 f fd ["_law_script"] (spLaw K) := by
  obtain ⟨f_is_integer, fd_is_integer, g_is_integer⟩ := c.glo X G 0 rfl
  obtain ⟨f_common, fd_common, g_common⟩ := c.glo X G 1 rfl
  obtain ⟨f_share_of_number, fd_share_of_number, g_share_of_number⟩ := c.glo X G 2 rfl
  obtain ⟨_, fd_3, F_3⟩ := c.def_ 3 rfl
  obtain ⟨f_Share_dd_add, fd_Share_dd_add, g_Share_dd_add⟩ := c.meth 4 rfl
  obtain ⟨f_Share_dd_radd, fd_Share_dd_radd, g_Share_dd_radd⟩ := c.meth 5 rfl
  obtain ⟨f_Share_dd_sub, fd_Share_dd_sub, g_Share_dd_sub⟩ := c.meth 6 rfl
  obtain ⟨f_Share_dd_rsub, fd_Share_dd_rsub, g_Share_dd_rsub⟩ := c.meth 7 rfl
  obtain ⟨f_Share_dd_mul, fd_Share_dd_mul, g_Share_dd_mul⟩ := c.meth 8 rfl
  obtain ⟨f_Share_dd_rmul, fd_Share_dd_rmul, g_Share_dd_rmul⟩ := c.meth 9 rfl
  obtain ⟨f_Share_by, fd_Share_by, g_Share_by⟩ := c.meth 10 rfl
  obtain ⟨f_Share_dd_neg, fd_Share_dd_neg, g_Share_dd_neg⟩ := c.meth 11 rfl
  obtain ⟨f_Share_dd_abs, fd_Share_dd_abs, g_Share_dd_abs⟩ := c.meth 12 rfl
  obtain ⟨f_Share_floor, fd_Share_floor, g_Share_floor⟩ := c.meth 13 rfl
  obtain ⟨p_Share_top, f_Share_top, fd_Share_top, g_Share_top⟩ := c.prop 14 rfl
  obtain ⟨p_Share_under, f_Share_under, fd_Share_under, g_Share_under⟩ := c.prop 15 rfl
  obtain ⟨f_lw_numbers, fd_lw_numbers, g_lw_numbers⟩ := c.glo X G 16 rfl
  obtain ⟨f_lw_pool, fd_lw_pool, g_lw_pool⟩ := c.glo X G 17 rfl
  obtain ⟨f_lw_draw, fd_lw_draw, g_lw_draw⟩ := c.glo X G 18 rfl
  obtain ⟨f_lw_opened, fd_lw_opened, g_lw_opened⟩ := c.glo X G 19 rfl
  obtain ⟨f_lw_lowest, fd_lw_lowest, g_lw_lowest⟩ := c.glo X G 20 rfl
  obtain ⟨f_lw_parts, fd_lw_parts, g_lw_parts⟩ := c.glo X G 21 rfl
  obtain ⟨f_lw_due, fd_lw_due, g_lw_due⟩ := c.glo X G 22 rfl
  obtain ⟨f_lw_done, fd_lw_done, g_lw_done⟩ := c.glo X G 23 rfl
  obtain ⟨f_lw_right, fd_lw_right, g_lw_right⟩ := c.glo X G 24 rfl
  obtain ⟨f_lw_law, fd_lw_law, g_lw_law⟩ := c.glo X G 25 rfl
  have e := hfa.symm.trans g_lw_law.m
  cases e
  refine ⟨fd_lw_law, fun s v => ?_, fun base hK hG => ?_⟩
  · obtain ⟨⟨oc, od, kV, doc, pm, an, cdv, ct, osl, rfl, lk, hcd⟩, kp⟩ := g_lw_law.F
    exact .of_eq rfl
  obtain ⟨ce1, ce2⟩ := ba c.more
  obtain ⟨cn1, cn⟩ := ba ce2
  obtain ⟨cn2, cn3⟩ := ba cn
  have na := numB_ok cn1
  have ns := numB_ok cn2
  have nm := numB_ok cn3
  obtain ⟨T, D, M⟩ := shB_ok (P := P) (w := w) (base := base) X G ce1
  let Z : Cz := ⟨P, w, K, mg, base⟩
  obtain ⟨c_is_integer, c_Share, c_Share1⟩ := mk_cals (Z := Z) X G T M ⟨_, _, g_is_integer⟩ ⟨_, _, g_common⟩ ⟨_, F_3⟩
  have c_num := g_share_of_number.cal (Z := Z) (ok_share_of_number g_share_of_number.F T c_is_integer c_Share1) (g_share_of_number.F.binds fun _ _ _ _ _ _ us hl => match us, hl with | [_], _ => rfl)
  have c_add := g_Share_dd_add.calS (Z := Z) (ok_add g_Share_dd_add.F T c_num c_Share) (g_Share_dd_add.F.binds fun _ _ _ _ _ _ us hl => match us, hl with | [_, _], _ => rfl)
  have c_mul := g_Share_dd_mul.calS (Z := Z) (ok_mul g_Share_dd_mul.F T c_num c_Share) (g_Share_dd_mul.F.binds fun _ _ _ _ _ _ us hl => match us, hl with | [_, _], _ => rfl)
  have c_neg := g_Share_dd_neg.calS (Z := Z) (ok_neg g_Share_dd_neg.F T c_Share) (g_Share_dd_neg.F.binds fun _ _ _ _ _ _ us hl => match us, hl with | [_], _ => rfl)
  have c_abs := g_Share_dd_abs.calS (Z := Z) (ok_abs g_Share_dd_abs.F T c_Share) (g_Share_dd_abs.F.binds fun _ _ _ _ _ _ us hl => match us, hl with | [_], _ => rfl)
  have c_radd := g_Share_dd_radd.calS (Z := Z) (ok_radd g_Share_dd_radd.F T c_add na) (g_Share_dd_radd.F.binds fun _ _ _ _ _ _ us hl => match us, hl with | [_, _], _ => rfl)
  have c_rmul := g_Share_dd_rmul.calS (Z := Z) (ok_rmul g_Share_dd_rmul.F T c_mul nm) (g_Share_dd_rmul.F.binds fun _ _ _ _ _ _ us hl => match us, hl with | [_, _], _ => rfl)
  have c_sub := g_Share_dd_sub.calS (Z := Z) (ok_sub g_Share_dd_sub.F T c_add c_num c_neg na) (g_Share_dd_sub.F.binds fun _ _ _ _ _ _ us hl => match us, hl with | [_, _], _ => rfl)
  have c_rsub := g_Share_dd_rsub.calS (Z := Z) (ok_rsub g_Share_dd_rsub.F T c_add c_num c_neg na) (g_Share_dd_rsub.F.binds fun _ _ _ _ _ _ us hl => match us, hl with | [_, _], _ => rfl)
  have c_by := g_Share_by.calM (Z := Z) T.cl (ok_by g_Share_by.F T c_num c_Share) (g_Share_by.F.binds fun _ _ _ _ _ _ us hl => match us, hl with | [_, _], _ => rfl)
  have c_floor := g_Share_floor.calM (Z := Z) T.cl (ok_floor g_Share_floor.F T) (g_Share_floor.F.binds fun _ _ _ _ _ _ us hl => match us, hl with | [_], _ => rfl)
  have c_top := g_Share_top.calP (Z := Z) T.cl (ok_top g_Share_top.F T) (g_Share_top.F.binds fun _ _ _ _ _ _ us hl => match us, hl with | [_], _ => rfl)
  have c_under := g_Share_under.calP (Z := Z) T.cl (ok_under g_Share_under.F T) (g_Share_under.F.binds fun _ _ _ _ _ _ us hl => match us, hl with | [_], _ => rfl)
  have SM : ShM Z (ga K "Share") := ⟨c_add, c_mul, c_neg, c_sub, c_radd, c_rsub, c_rmul, c_abs, c_by, c_floor, na, ns, nm, c_Share, c_Share1⟩
  have c_numbers := g_lw_numbers.cal (Z := Z) (ok_numbers g_lw_numbers.F D) (g_lw_numbers.F.binds fun _ _ _ _ _ _ us hl => match us, hl with | [_, _, _], _ => rfl)
  have c_pool := g_lw_pool.cal (Z := Z) (ok_pool g_lw_pool.F D c_numbers) (g_lw_pool.F.binds fun _ _ _ _ _ _ us hl => match us, hl with | [_, _, _], _ => rfl)
  have c_draw := g_lw_draw.cal (Z := Z) (ok_draw g_lw_draw.F D) (g_lw_draw.F.binds fun _ _ _ _ _ _ us hl => match us, hl with | [_, _], _ => rfl)
  have c_opened := g_lw_opened.cal (Z := Z) (ok_opened g_lw_opened.F D c_pool) (g_lw_opened.F.binds fun _ _ _ _ _ _ us hl => match us, hl with | [_, _, _], _ => rfl)
  have c_lowest := g_lw_lowest.cal (Z := Z) (ok_lowest g_lw_lowest.F T) (g_lw_lowest.F.binds fun _ _ _ _ _ _ us hl => match us, hl with | [_, _], _ => rfl)
  have c_parts := g_lw_parts.cal (Z := Z) (ok_parts g_lw_parts.F T c_top c_under) (g_lw_parts.F.binds fun _ _ _ _ _ _ us hl => match us, hl with | [_], _ => rfl)
  have c_due := g_lw_due.cal (Z := Z) (ok_due g_lw_due.F c_lowest) (g_lw_due.F.binds fun _ _ _ _ _ _ us hl => match us, hl with | [_, _, _], _ => rfl)
  have c_done := g_lw_done.cal (Z := Z) (ok_done g_lw_done.F T SM c_parts) (g_lw_done.F.binds fun _ _ _ _ _ _ us hl => match us, hl with | [_, _, _], _ => rfl)
  have c_right := g_lw_right.cal (Z := Z) (ok_right g_lw_right.F T D SM c_parts c_lowest c_due c_done) (g_lw_right.F.binds fun _ _ _ _ _ _ us hl => match us, hl with | [_, _, _], _ => rfl)
  exact ok_law g_lw_law.F D c_opened c_draw c_right
end Ps
open PySem PySem.W PySem.Calls PyProof.Rows
theorem PySem.Challenge.cw_planswitches_k01_shares_reckoned_holds : PySem.Challenge.rw_planswitches_k01_shares_reckoned.Holds := by
  w_on; o_law
  refine HandSHeadRun.head_any (r := OpenLaw.row PySem.Challenge.rw_planswitches_k01_shares_reckoned) (q := view (OpenLaw.row PySem.Challenge.rw_planswitches_k01_shares_reckoned).prog [21]) (H := Ps.hk) (ob := Ps.ob) (M := 6000) (loose := Ps.loose) (d := HandSHeadRun.topDef (OpenLaw.row PySem.Challenge.rw_planswitches_k01_shares_reckoned).prog 21) (kwd := []) Ps.ob_eq
    (by kernel_rfl) (fun s => by kernel_rfl) Ps.run (by kernel_rfl) (by kernel_rfl) (by kernel_rfl) (by rfl) (by first | assumption | decide +kernel) (by decide +kernel) ⟨rfl, rfl, rfl, rfl, rfl, by decide +kernel⟩ ?hw ?hc
  case hw => w_witness2
  case hc =>
    refine L2.walk_ofE (l := PySem.Challenge.rw_planswitches_k01_shares_reckoned) (n := 63) (k := 9) (x := "_law_script") (CX := L2.CX0) rfl (by decide) (by kernel_rfl) ⟨rfl, by decide, by decide⟩ ?F (fun _ _ _ _ z => z)
    intro w mg fa h Y G hmg0
    obtain ⟨K, KX, c⟩ := Y
    have hmg : mg ("law" : PySem.Str) = some (.ref fa) := by
      have e : (HandSHeadRun.topDef (OpenLaw.row PySem.Challenge.rw_planswitches_k01_shares_reckoned).prog 21).name = ("law" : PySem.Str) := by kernel_rfl
      rw [← e]
      exact hmg0
    obtain ⟨fd, hb, hF⟩ := Ps.facts (P := (PySem.Challenge.rw_planswitches_k01_shares_reckoned).prog) (w := w) KX G hmg c
    exact ⟨K, fd, Ps.spLaw K, KX, hb, fun H a ns hl _ hS => ⟨a, ns, rfl, hS, hl, fun _ => rfl⟩, hF⟩


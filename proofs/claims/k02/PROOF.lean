import PyProof.Rows.All
import Wide.All
import OpenK.AllK
import Wide.FinOn
import HandS.ForMost
import HandS.IsInst
import HandS.Property
import HandS.Wide
import HandS.EndBits
import HandS.OwnEq
import HandS.Defaults
import HandS.More
import KE.KStateDown
import HandS.Head0
import HandS.Head1
import HandS.Head2
import HandS.HeadEnd
import HandS.HeadHook1
import HandS.HeadHook2
import HandS.Star
import HandS.ClsMeth
import HandS.Codes
import HandS.Exc
import HandS.TryOnly
import HandS.TryMany
import HandS.ExcOwn
import HandS.ExcSuper
import HandS.ExcField
import HandS.WordsExc
import HandS.ExcCtx
import HandS.HotCalls
import HandS.CallSlots
import KE.KCallOwn
import HandS.FStr
import HandS.Text
import HandS.StrMore
import HandS.ReplaceLit
import PySem.Challenge.RW_planswitches_k02_shares_compared_and_wri
set_option Elab.async false
set_option linter.all false
set_option maxRecDepth 100000
/-! places and scopes of the defs of planswitches_k02_shares_compared_and_wri -/
namespace Ps
open PySem L2
def topS (i : Nat) : Stmt := PySem.Challenge.pw_planswitches_k02_shares_compared_and_wri.main.body.getD i (.Pass ⟨0, 0, 0, 0⟩)
abbrev s_BadText_dd_init : Stmt := inClass (topS 3) 0
theorem sc_BadText_dd_init : FnScope ["self", "at"] ["self", "at"] (defScope s_BadText_dd_init) := ⟨rfl, rfl, rfl, by decide +kernel, rfl, by decide +kernel, by decide +kernel⟩
abbrev s_BadShare_dd_init : Stmt := inClass (topS 4) 0
theorem sc_BadShare_dd_init : FnScope ["self", "value"] ["self", "value"] (defScope s_BadShare_dd_init) := ⟨rfl, rfl, rfl, by decide +kernel, rfl, by decide +kernel, by decide +kernel⟩
abbrev s_is_integer : Stmt := topS 7
theorem sc_is_integer : FnScope ["value"] ["value"] (defScope s_is_integer) := ⟨rfl, rfl, rfl, by decide +kernel, rfl, by decide +kernel, by decide +kernel⟩
abbrev s_common : Stmt := topS 8
theorem sc_common : FnScope ["one", "other"] ["one", "other"] (defScope s_common) := ⟨rfl, rfl, rfl, by decide +kernel, rfl, by decide +kernel, by decide +kernel⟩
abbrev s_share_of_number : Stmt := topS 9
theorem sc_share_of_number : FnScope ["value"] ["value"] (defScope s_share_of_number) := ⟨rfl, rfl, rfl, by decide +kernel, rfl, by decide +kernel, by decide +kernel⟩
abbrev s_is_number : Stmt := topS 10
theorem sc_is_number : FnScope ["value"] ["value"] (defScope s_is_number) := ⟨rfl, rfl, rfl, by decide +kernel, rfl, by decide +kernel, by decide +kernel⟩
abbrev s_is_written : Stmt := topS 11
theorem sc_is_written : FnScope ["text", "sign"] ["text"] (defScope s_is_written) := ⟨rfl, rfl, rfl, by decide +kernel, rfl, by decide +kernel, by decide +kernel⟩
abbrev s_Share_dd_init : Stmt := inClass (topS 12) 0
theorem sc_Share_dd_init : FnScope ["self", "top", "under", "divisor"] ["self", "top", "under"] (defScope s_Share_dd_init) := ⟨rfl, rfl, rfl, by decide +kernel, rfl, by decide +kernel, by decide +kernel⟩
abbrev s_Share_top : Stmt := inClass (topS 12) 1
theorem sc_Share_top : FnScope ["self"] ["self"] (defScope s_Share_top) := ⟨rfl, rfl, rfl, by decide +kernel, rfl, by decide +kernel, by decide +kernel⟩
abbrev s_Share_under : Stmt := inClass (topS 12) 2
theorem sc_Share_under : FnScope ["self"] ["self"] (defScope s_Share_under) := ⟨rfl, rfl, rfl, by decide +kernel, rfl, by decide +kernel, by decide +kernel⟩
abbrev s_Share_dd_add : Stmt := inClass (topS 12) 3
theorem sc_Share_dd_add : FnScope ["self", "other"] ["self", "other"] (defScope s_Share_dd_add) := ⟨rfl, rfl, rfl, by decide +kernel, rfl, by decide +kernel, by decide +kernel⟩
abbrev s_Share_dd_radd : Stmt := inClass (topS 12) 4
theorem sc_Share_dd_radd : FnScope ["self", "other"] ["self", "other"] (defScope s_Share_dd_radd) := ⟨rfl, rfl, rfl, by decide +kernel, rfl, by decide +kernel, by decide +kernel⟩
abbrev s_Share_dd_sub : Stmt := inClass (topS 12) 5
theorem sc_Share_dd_sub : FnScope ["self", "other"] ["self", "other"] (defScope s_Share_dd_sub) := ⟨rfl, rfl, rfl, by decide +kernel, rfl, by decide +kernel, by decide +kernel⟩
abbrev s_Share_dd_rsub : Stmt := inClass (topS 12) 6
theorem sc_Share_dd_rsub : FnScope ["self", "other"] ["self", "other"] (defScope s_Share_dd_rsub) := ⟨rfl, rfl, rfl, by decide +kernel, rfl, by decide +kernel, by decide +kernel⟩
abbrev s_Share_dd_mul : Stmt := inClass (topS 12) 7
theorem sc_Share_dd_mul : FnScope ["self", "other"] ["self", "other"] (defScope s_Share_dd_mul) := ⟨rfl, rfl, rfl, by decide +kernel, rfl, by decide +kernel, by decide +kernel⟩
abbrev s_Share_dd_rmul : Stmt := inClass (topS 12) 8
theorem sc_Share_dd_rmul : FnScope ["self", "other"] ["self", "other"] (defScope s_Share_dd_rmul) := ⟨rfl, rfl, rfl, by decide +kernel, rfl, by decide +kernel, by decide +kernel⟩
abbrev s_Share_dd_neg : Stmt := inClass (topS 12) 10
theorem sc_Share_dd_neg : FnScope ["self"] ["self"] (defScope s_Share_dd_neg) := ⟨rfl, rfl, rfl, by decide +kernel, rfl, by decide +kernel, by decide +kernel⟩
abbrev s_Share_dd_abs : Stmt := inClass (topS 12) 11
theorem sc_Share_dd_abs : FnScope ["self"] ["self"] (defScope s_Share_dd_abs) := ⟨rfl, rfl, rfl, by decide +kernel, rfl, by decide +kernel, by decide +kernel⟩
abbrev s_Share_dd_bool : Stmt := inClass (topS 12) 12
theorem sc_Share_dd_bool : FnScope ["self"] ["self"] (defScope s_Share_dd_bool) := ⟨rfl, rfl, rfl, by decide +kernel, rfl, by decide +kernel, by decide +kernel⟩
abbrev s_Share_minus : Stmt := inClass (topS 12) 13
theorem sc_Share_minus : FnScope ["self", "other"] ["self", "other"] (defScope s_Share_minus) := ⟨rfl, rfl, rfl, by decide +kernel, rfl, by decide +kernel, by decide +kernel⟩
abbrev s_Share_dd_lt : Stmt := inClass (topS 12) 14
theorem sc_Share_dd_lt : FnScope ["self", "other"] ["self", "other"] (defScope s_Share_dd_lt) := ⟨rfl, rfl, rfl, by decide +kernel, rfl, by decide +kernel, by decide +kernel⟩
abbrev s_Share_dd_le : Stmt := inClass (topS 12) 15
theorem sc_Share_dd_le : FnScope ["self", "other"] ["self", "other"] (defScope s_Share_dd_le) := ⟨rfl, rfl, rfl, by decide +kernel, rfl, by decide +kernel, by decide +kernel⟩
abbrev s_Share_dd_gt : Stmt := inClass (topS 12) 16
theorem sc_Share_dd_gt : FnScope ["self", "other"] ["self", "other"] (defScope s_Share_dd_gt) := ⟨rfl, rfl, rfl, by decide +kernel, rfl, by decide +kernel, by decide +kernel⟩
abbrev s_Share_dd_ge : Stmt := inClass (topS 12) 17
theorem sc_Share_dd_ge : FnScope ["self", "other"] ["self", "other"] (defScope s_Share_dd_ge) := ⟨rfl, rfl, rfl, by decide +kernel, rfl, by decide +kernel, by decide +kernel⟩
abbrev s_Share_dd_eq : Stmt := inClass (topS 12) 18
theorem sc_Share_dd_eq : FnScope ["self", "other"] ["self", "other"] (defScope s_Share_dd_eq) := ⟨rfl, rfl, rfl, by decide +kernel, rfl, by decide +kernel, by decide +kernel⟩
abbrev s_Share_dd_str : Stmt := inClass (topS 12) 19
theorem sc_Share_dd_str : FnScope ["self"] ["self"] (defScope s_Share_dd_str) := ⟨rfl, rfl, rfl, by decide +kernel, rfl, by decide +kernel, by decide +kernel⟩
abbrev s_Share_dd_repr : Stmt := inClass (topS 12) 20
theorem sc_Share_dd_repr : FnScope ["self"] ["self"] (defScope s_Share_dd_repr) := ⟨rfl, rfl, rfl, by decide +kernel, rfl, by decide +kernel, by decide +kernel⟩
abbrev s_Share_parse : Stmt := inClass (topS 12) 23
theorem sc_Share_parse : FnScope ["text", "parts", "part", "under", "top", "found"] ["text"] (defScope s_Share_parse) := ⟨rfl, rfl, rfl, by decide +kernel, rfl, by decide +kernel, by decide +kernel⟩
abbrev s_lw_numbers : Stmt := topS 14
theorem sc_lw_numbers : FnScope ["_law_cell", "_law_salt", "_law_sizes", "_law_whole", "_law_left", "_law_result", "_law_k", "_law_one"] ["_law_cell", "_law_salt", "_law_sizes"] (defScope s_lw_numbers) := ⟨rfl, rfl, rfl, by decide +kernel, rfl, by decide +kernel, by decide +kernel⟩
abbrev s_lw_pool : Stmt := topS 15
theorem sc_lw_pool : FnScope ["_law_cell", "_law_salt", "_law_many"] ["_law_cell", "_law_salt", "_law_many"] (defScope s_lw_pool) := ⟨rfl, rfl, rfl, by decide +kernel, rfl, by decide +kernel, by decide +kernel⟩
abbrev s_lw_draw : Stmt := topS 16
theorem sc_lw_draw : FnScope ["_law_pool_here", "_law_many", "_law_at"] ["_law_pool_here", "_law_many"] (defScope s_lw_draw) := ⟨rfl, rfl, rfl, by decide +kernel, rfl, by decide +kernel, by decide +kernel⟩
abbrev s_lw_opened : Stmt := topS 17
theorem sc_lw_opened : FnScope ["_law_script", "_law_k", "_law_many", "_law_cell"] ["_law_script", "_law_k", "_law_many"] (defScope s_lw_opened) := ⟨rfl, rfl, rfl, by decide +kernel, rfl, by decide +kernel, by decide +kernel⟩
abbrev s_lw_lowest : Stmt := topS 18
theorem sc_lw_lowest : FnScope ["_law_top", "_law_under", "_law_one", "_law_other"] ["_law_top", "_law_under"] (defScope s_lw_lowest) := ⟨rfl, rfl, rfl, by decide +kernel, rfl, by decide +kernel, by decide +kernel⟩
abbrev s_lw_orders : Stmt := topS 19
theorem sc_lw_orders : FnScope ["_law_one", "_law_other"] ["_law_one", "_law_other"] (defScope s_lw_orders) := ⟨rfl, rfl, rfl, by decide +kernel, rfl, by decide +kernel, by decide +kernel⟩
abbrev s_lw_due : Stmt := topS 20
theorem sc_lw_due : FnScope ["_law_left", "_law_right_here"] ["_law_left", "_law_right_here"] (defScope s_lw_due) := ⟨rfl, rfl, rfl, by decide +kernel, rfl, by decide +kernel, by decide +kernel⟩
abbrev s_lw_written : Stmt := topS 21
theorem sc_lw_written : FnScope ["_law_pair"] ["_law_pair"] (defScope s_lw_written) := ⟨rfl, rfl, rfl, by decide +kernel, rfl, by decide +kernel, by decide +kernel⟩
abbrev s_lw_read : Stmt := topS 22
theorem sc_lw_read : FnScope ["_law_text", "_law_found", "e"] ["_law_text"] (defScope s_lw_read) := ⟨rfl, rfl, rfl, by decide +kernel, rfl, by decide +kernel, by decide +kernel⟩
abbrev s_lw_own_read : Stmt := topS 23
theorem sc_lw_own_read : FnScope ["_law_text", "_law_found", "_law_top", "_law_under"] ["_law_text"] (defScope s_lw_own_read) := ⟨rfl, rfl, rfl, by decide +kernel, rfl, by decide +kernel, by decide +kernel⟩
abbrev s_lw_bent : Stmt := topS 24
theorem sc_lw_bent : FnScope ["_law_pool_here", "_law_text", "_law_bent_here"] ["_law_pool_here", "_law_text"] (defScope s_lw_bent) := ⟨rfl, rfl, rfl, by decide +kernel, rfl, by decide +kernel, by decide +kernel⟩
abbrev s_lw_right : Stmt := topS 25
theorem sc_lw_right : FnScope ["_law_one", "_law_other", "_law_more", "_law_first", "_law_second", "_law_text"] ["_law_one", "_law_other", "_law_more"] (defScope s_lw_right) := ⟨rfl, rfl, rfl, by decide +kernel, rfl, by decide +kernel, by decide +kernel⟩
abbrev s_lw_law : Stmt := topS 26
theorem sc_lw_law : FnScope ["_law_script", "_law_k", "_law_pool_here", "_law_one", "_law_other", "_law_text", "_law_odd"] ["_law_script"] (defScope s_lw_law) := ⟨rfl, rfl, rfl, by decide +kernel, rfl, by decide +kernel, by decide +kernel⟩
end Ps

set_option maxHeartbeats 4000000
/-! Own operators over the hand layer: the operand on the left is an own instance; or an int on the left and an own instance on the right. -/
namespace Ps
open PySem PySem.Spec PyProof.Rows PySem.W L2

section
variable {prog : Program} {w : World} {A : Around} {E : Value → Shared → Prop} {s : Shared} {K : Frag} {x C L f f' : Addr} {h₀ : Heap} {m : Str → Option Value} {ox : Obj} {od : Option Obj}

theorem asInt_inst {M : Model} {Q : Option Int → Shared → Prop} {dx : Addr} (hx : s.heap.get? x = some (instObj C dx)) (h : Q none s) : wpAny M A (asInt? (.ref x)) Q E s := by
  unfold asInt?
  exact wpAny_bind (wpAny_load hx (wpAny_pure h))

theorem dec_add {t : Tok} {i : Int} {dx : Addr} {Q : Value → Shared → Prop} (hx : s.heap.get? x = some (instObj C dx)) (h : Q .notImplemented s) :
    wpAny (model prog w) A (call (.builtin "int.__add__") [.int i t, .ref x]) Q E s := by
  refine GQ.call_here F.slot_int_add (typeIs_int s i t) F.entry_int_add (F.args_int_add_2 _ _) ?_
  obtain ⟨hp, g, d, tk, os⟩ := s
  wp_walk using asInt_inst hx
  exact h
theorem dec_sub {t : Tok} {i : Int} {dx : Addr} {Q : Value → Shared → Prop} (hx : s.heap.get? x = some (instObj C dx)) (h : Q .notImplemented s) :
    wpAny (model prog w) A (call (.builtin "int.__sub__") [.int i t, .ref x]) Q E s := by
  refine GQ.call_here F.slot_int_sub (typeIs_int s i t) F.entry_int_sub (F.args_int_sub_2 _ _) ?_
  obtain ⟨hp, g, d, tk, os⟩ := s
  wp_walk using asInt_inst hx
  exact h
theorem dec_mul {t : Tok} {i : Int} {dx : Addr} {Q : Value → Shared → Prop} (hx : s.heap.get? x = some (instObj C dx)) (h : Q .notImplemented s) :
    wpAny (model prog w) A (call (.builtin "int.__mul__") [.int i t, .ref x]) Q E s := by
  refine GQ.call_here F.slot_int_mul (typeIs_int s i t) F.entry_int_mul (F.args_int_mul_2 _ _) ?_
  obtain ⟨hp, g, d, tk, os⟩ := s
  wp_walk using asInt_inst hx
  exact h
theorem dec_lt {t : Tok} {i : Int} {dx : Addr} {Q : Value → Shared → Prop} (hx : s.heap.get? x = some (instObj C dx)) (h : Q .notImplemented s) :
    wpAny (model prog w) A (call (.builtin "int.__lt__") [.int i t, .ref x]) Q E s := by
  refine GQ.call_here F.slot_int_lt (typeIs_int s i t) F.entry_int_lt (F.args_int_lt_2 _ _) ?_
  obtain ⟨hp, g, d, tk, os⟩ := s
  wp_walk using asInt_inst hx
  exact h
theorem dec_le {t : Tok} {i : Int} {dx : Addr} {Q : Value → Shared → Prop} (hx : s.heap.get? x = some (instObj C dx)) (h : Q .notImplemented s) :
    wpAny (model prog w) A (call (.builtin "int.__le__") [.int i t, .ref x]) Q E s := by
  refine GQ.call_here F.slot_int_le (typeIs_int s i t) F.entry_int_le (F.args_int_le_2 _ _) ?_
  obtain ⟨hp, g, d, tk, os⟩ := s
  wp_walk using asInt_inst hx
  exact h
theorem dec_gt {t : Tok} {i : Int} {dx : Addr} {Q : Value → Shared → Prop} (hx : s.heap.get? x = some (instObj C dx)) (h : Q .notImplemented s) :
    wpAny (model prog w) A (call (.builtin "int.__gt__") [.int i t, .ref x]) Q E s := by
  refine GQ.call_here F.slot_int_gt (typeIs_int s i t) F.entry_int_gt (F.args_int_gt_2 _ _) ?_
  obtain ⟨hp, g, d, tk, os⟩ := s
  wp_walk using asInt_inst hx
  exact h
theorem dec_ge {t : Tok} {i : Int} {dx : Addr} {Q : Value → Shared → Prop} (hx : s.heap.get? x = some (instObj C dx)) (h : Q .notImplemented s) :
    wpAny (model prog w) A (call (.builtin "int.__ge__") [.int i t, .ref x]) Q E s := by
  refine GQ.call_here F.slot_int_ge (typeIs_int s i t) F.entry_int_ge (F.args_int_ge_2 _ _) ?_
  obtain ⟨hp, g, d, tk, os⟩ := s
  wp_walk using asInt_inst hx
  exact h
theorem dec_eq {t : Tok} {i : Int} {dx : Addr} {Q : Value → Shared → Prop} (hx : s.heap.get? x = some (instObj C dx)) (h : Q .notImplemented s) :
    wpAny (model prog w) A (call (.builtin "int.__eq__") [.int i t, .ref x]) Q E s := by
  refine GQ.call_here F.slot_int_eq (typeIs_int s i t) F.entry_int_eq (F.args_int_eq_2 _ _) ?_
  obtain ⟨hp, g, d, tk, os⟩ := s
  wp_walk using asInt_inst hx
  exact h
theorem dec_ne {t : Tok} {i : Int} {dx : Addr} {Q : Value → Shared → Prop} (hx : s.heap.get? x = some (instObj C dx)) (h : Q .notImplemented s) :
    wpAny (model prog w) A (call (.builtin "int.__ne__") [.int i t, .ref x]) Q E s := by
  refine GQ.call_here F.slot_int_ne (typeIs_int s i t) F.entry_int_ne (F.args_int_ne_2 _ _) ?_
  obtain ⟨hp, g, d, tk, os⟩ := s
  wp_walk using asInt_inst hx
  exact h

/-- an int on the left, an own instance on the right: the reflected method -/
theorem binop_R {op : Operator} {t : Tok} {i : Int} {id : String} {Q : Value → Shared → Prop} (X : K.In s.heap) (I : InstAt s.heap x ox C od) (hc : selfFirst K C = true)
    (hs : findIn K (.ref C) (PySem.dunder op.info.2) = some (some (.ref f'))) (hr : findIn K (.ref C) (dunderR op.info.2) = some (some (.ref f))) (hf : isFn K (.ref f) = true)
    (hsub : subIn K (.ref C) (.type "int") = some false) (hfl : fillsNumberSlot (.type "int") op.info.2 = pure true) (sl : Slot "int" (PySem.dunder op.info.2) id)
    (hd : ∀ Q : Value → Shared → Prop, Q .notImplemented s → wpAny (model prog w) A (call (.builtin id) [.int i t, .ref x]) Q E s)
    (h : wpAny (model prog w) A (call (.ref f) [.ref x, .int i t]) (PySem.W.CmpBack Q) E s) : wpAny (model prog w) A (binaryOp op (.int i t) (.ref x)) Q E s := by
  obtain ⟨cd, rest, hcd, hm⟩ := ksp_first hc
  rcases hi : op.info with ⟨sym, nm'⟩
  rw [hi] at hs hr hfl sl
  dsimp only at hs hr hfl sl
  have one := ksp_try X I hr hf h
  obtain ⟨hh, g, d, tt, os⟩ := s
  have L1 : Looks (model prog w) hh (typeOf (.ref x)) (.ref C) := I.type
  have L2 : Looks (model prog w) hh (typeOf (.int i t)) (.type "int") := Looks.of_pure rfl
  have L3 : Looks (model prog w) hh (fillsNumberSlot (.ref C) nm') true := fills_K X hcd hm hs
  have L4 : Looks (model prog w) hh (fillsNumberSlot (.type "int") nm') true := Looks.of_pure hfl
  have L5 : Looks (model prog w) hh (isSubtype (.ref C) (.type "int")) false := looks_subIn X hsub
  have L7 : Looks (model prog w) hh (numberSlotInPython (.type "int") nm') false := Looks.of_pure rfl
  have dec : wpAny (model prog w) A (tryMethod (.int i t) (PySem.dunder nm') (.ref x)) (fun r s' => r = none ∧ s' = ⟨hh, g, d, tt, os⟩) E ⟨hh, g, d, tt, os⟩ :=
    wpAny_tryMethod_declines (typeIs_int _ i t) sl (hd _ ⟨rfl, rfl, rfl⟩)
  have hne : (Value.type "int" == Value.ref C) = false := Bool.eq_false_iff.mpr fun q => by cases beq_iff_eq.mp q
  simp only [binaryOp, hi]
  refine wpAny_holding (wpAny_bind ?_)
  unfold binaryOp1
  refine wpAny_bind (L2.at (wpAny_bind (L1.at (wpAny_bind (L4.at ?_)))))
  simp only [hne, Bool.false_eq_true, if_false]
  ksp_lk
  refine wpAny_mono dec (fun r s' hr' => ?_) fun _ _ e => e
  obtain ⟨rfl, rfl⟩ := hr'
  ksp_lk
  refine wpAny_mono one (fun r s' hr' => ?_) fun _ _ e => e
  obtain ⟨v, rfl, hq⟩ := hr'
  ksp_lk
  exact hq
end

/-! ### over the layer -/
section
variable {X : Cx} {CX : CXT} {k : Nat} {f C f' : Addr} {fd : FuncData} {ps : List Str} {sp : Sp} {E : XK}

theorem cmpBack {pins : List (Addr × Obj)} {σ : L2.St} {Q : VK} {u : Value} {s : Shared} (h : EP X pins σ Q u s) : PySem.W.CmpBack (EP X pins σ Q) u s := by
  obtain ⟨v, H', I, r, q⟩ := id h
  cases v with
  | non => cases (show u = Value.none from r); exact h
  | bl b => cases (show u = Value.bool b from r); exact h
  | int i => obtain ⟨t, e⟩ := (show ∃ t, u = Value.int i t from r); cases e; exact h
  | str x => obtain ⟨t, e⟩ := (show ∃ t, u = Value.str x t from r); cases e; exact h
  | byt b => obtain ⟨t, e⟩ := (show ∃ t, u = Value.bytes b t from r); cases e; exact h
  | flt b => obtain ⟨t, e⟩ := (show ∃ t, u = Value.float b t from r); cases e; exact h
  | ref a => cases (show u = Value.ref a from r); exact h
  | ty n => cases (show u = Value.type n from r); exact h

/-- the class at C has the method nm at f -/
structure OwnOp (K : Frag) (C f : Addr) (nm : Str) : Prop where
  sf : selfFirst K C = true
  fn : findIn K (.ref C) nm = some (some (.ref f))
  isf : isFn K (.ref f) = true

/-- what is said of an own instance -/
def InsC (C : Addr) (H : Hp) (v : V) : Prop := ∃ a dx fs, v = .ref a ∧ H a = some (.ins C dx fs)
def rOwn (C : Addr) (sp : Sp) (E : XK) : R2 := fun x y H Q => InsC C H x ∧ InsC C H y ∧ sp [x, y] H Q E
def rOwnI (C : Addr) (sp : Sp) (E : XK) : R2 := fun x y H Q => InsC C H x ∧ (∃ i, y = .int i) ∧ sp [x, y] H Q E
def rRefI (C : Addr) (sp : Sp) (E : XK) : R2 := fun x y H Q => (∃ i, x = .int i) ∧ InsC C H y ∧ sp [y, x] H Q E

theorem op_own {op : Operator} (O : OwnOp X.K C f (PySem.dunder op.info.2)) (G : FnOk X.prog X.w X.K X.mg X.base CX k f fd ps sp) (hr : Room k X.A) (hb : Binds X.K fd ps []) (hx : Passes CX X E) : OpR X (binaryOp op) (rOwn C sp E) := by
  intro pins s σ H x y v u Q I rx ry h
  obtain ⟨⟨a, dx, fs, rfl, ha⟩, ⟨b, dy, gs, rfl, hb'⟩, h⟩ := h
  cases (show v = Value.ref a from rx)
  cases (show u = Value.ref b from ry)
  obtain ⟨mA, J, _⟩ := ins_get I.hok ha
  obtain ⟨mB, J', _⟩ := ins_get I.hok hb'
  obtain ⟨od, J, _⟩ := J.look
  obtain ⟨od', J', _⟩ := J'.look
  obtain ⟨m, hF⟩ := I.fr
  refine binop_K hF I.ok.mod.kin J J'.type O.sf O.fn O.isf ?_
  exact wpAny_mono (run_fn (us := [.ref a, .ref b]) (vs := [.ref a, .ref b]) (dvs := []) G hr hb .nil hx I (.cons rfl (.cons rfl .nil)) h) (fun _ _ z => cmpBack z) fun _ _ z => z

theorem op_ownI {op : Operator} {fo ro rc : Option Value} (O : OwnOp X.K C f (PySem.dunder op.info.2)) (hrc : findIn X.K (.ref C) (dunderR op.info.2) = some rc) (hp : rc = none ∨ ∃ g : Addr, rc = some (.ref g))
    (h1 : findIn X.K (.type "int") (PySem.dunder op.info.2) = some fo) (h2 : findIn X.K (.type "int") (dunderR op.info.2) = some ro) (hsub : subIn X.K (.type "int") (.ref C) = some false)
    (G : FnOk X.prog X.w X.K X.mg X.base CX k f fd ps sp) (hr : Room k X.A) (hb : Binds X.K fd ps []) (hx : Passes CX X E) : OpR X (binaryOp op) (rOwnI C sp E) := by
  intro pins s σ H x y v u Q I rx ry h
  obtain ⟨⟨a, dx, fs, rfl, ha⟩, ⟨i, rfl⟩, h⟩ := h
  cases (show v = Value.ref a from rx)
  obtain ⟨t, e⟩ := (show ∃ t, u = Value.int i t from ry)
  cases e
  obtain ⟨mA, J, _⟩ := ins_get I.hok ha
  obtain ⟨od, J, _⟩ := J.look
  obtain ⟨m, hF⟩ := I.fr
  refine ksp_binT hF I.ok.mod.kin J (T := "int") rfl O.sf O.fn O.isf hrc hp h1 h2 hsub ?_
  exact wpAny_mono (run_fn (us := [.ref a, .int i t]) (vs := [.ref a, .int i]) (dvs := []) G hr hb .nil hx I (.cons rfl (.cons ⟨t, rfl⟩ .nil)) h) (fun _ _ z => cmpBack z) fun _ _ z => z

theorem op_refI {op : Operator} {id : String} (O : OwnOp X.K C f (dunderR op.info.2)) (hs : findIn X.K (.ref C) (PySem.dunder op.info.2) = some (some (.ref f'))) (hsub : subIn X.K (.ref C) (.type "int") = some false)
    (hfl : fillsNumberSlot (.type "int") op.info.2 = pure true) (sl : Slot "int" (PySem.dunder op.info.2) id)
    (hd : ∀ {s : Shared} {x C dx : Addr} {t : Tok} {i : Int} {Q : Value → Shared → Prop}, s.heap.get? x = some (instObj C dx) → Q .notImplemented s → wpAny (model X.prog X.w) X.A (call (.builtin id) [.int i t, .ref x]) Q X.xe s)
    (G : FnOk X.prog X.w X.K X.mg X.base CX k f fd ps sp) (hr : Room k X.A) (hb : Binds X.K fd ps []) (hx : Passes CX X E) : OpR X (binaryOp op) (rRefI C sp E) := by
  intro pins s σ H x y v u Q I rx ry h
  obtain ⟨⟨i, rfl⟩, ⟨a, dx, fs, rfl, ha⟩, h⟩ := h
  cases (show u = Value.ref a from ry)
  obtain ⟨t, e⟩ := (show ∃ t, v = Value.int i t from rx)
  cases e
  obtain ⟨mA, J0, _⟩ := ins_get I.hok ha
  obtain ⟨_, _, _, hget, _⟩ := (show ObjOk X.prog X.w H s.heap a (.ins C dx fs) from I.hok a _ ha)
  obtain ⟨od, J, _⟩ := J0.look
  refine binop_R I.kIn J O.sf hs O.fn O.isf hsub hfl sl (fun Q q => hd hget q) ?_
  exact wpAny_mono (run_fn (us := [.ref a, .int i t]) (vs := [.ref a, .int i]) (dvs := []) G hr hb .nil hx I (.cons rfl (.cons ⟨t, rfl⟩ .nil)) h) (fun _ _ z => cmpBack z) fun _ _ z => z

/-- -x, abs(x) -/
def rUOwn (C : Addr) (sp : Sp) (E : XK) : V → Hp → VK → Prop := fun x H Q => InsC C H x ∧ sp [x] H Q E
theorem un_own (O : OwnOp X.K C f "__neg__") (G : FnOk X.prog X.w X.K X.mg X.base CX k f fd ps sp) (hr : Room k X.A) (hb : Binds X.K fd ps []) (hx : Passes CX X E) : UnR X (unaryOp .USub) (rUOwn C sp E) := by
  intro pins s σ H x v Q I rx h
  obtain ⟨⟨a, dx, fs, rfl, ha⟩, h⟩ := h
  cases (show v = Value.ref a from rx)
  obtain ⟨mA, J, _⟩ := ins_get I.hok ha
  obtain ⟨od, J, _⟩ := J.look
  obtain ⟨m, hF⟩ := I.fr
  exact ksp_neg hF I.ok.mod.kin J O.fn O.isf (run_fn (us := [.ref a]) (vs := [.ref a]) (dvs := []) G hr hb .nil hx I (.cons rfl .nil) h)

/-- the callee runs, called out of a builtin -/
theorem run_fn1 {pins : List (Addr × Obj)} {σ : L2.St} {H : Hp} {s : Shared} {Q : VK} {us : List Value} {vs : List V} (F : FnOk X.prog X.w X.K X.mg X.base CX k f fd ps sp) (hr : Room (k + 1) X.A) (hb : Binds X.K fd ps []) (hx : Passes CX X E)
    (I : L2.Inv X pins σ H s) (r : Vals vs us) (h : sp vs H Q E) : wpAny (model X.prog X.w) X.A.in1 (call (.ref f) us) (EP X pins σ Q) X.xe s := by
  have hl : (us ++ []).length = ps.length := by rw [List.append_nil, ← r.length]; exact F.len _ _ _ _ h
  have hb' := hb s us I.kIn hl
  rw [List.append_nil] at hb'
  refine wpAny_call (codeAny_mono (F.run X.A.in1 X.stack s H ⟨us, []⟩ us vs Q E hr.in1 I.env0.in1 hb' r h) fun r s' hq => ?_)
  cases r with
  | error e => exact hx pins σ H s e s' I hq
  | ok fl =>
    cases fl with
    | ret u => exact I.after hq
    | next => exact False.elim hq
    | brk => exact False.elim hq
    | cont => exact False.elim hq
theorem call_absO (O : OwnOp X.K C f "__abs__") (G : FnOk X.prog X.w X.K X.mg X.base CX k f fd ps sp) (hr : Room (k + 1) X.A) (hb : Binds X.K fd ps []) (hx : Passes CX X E) : CallR X (.builtin "abs") (fun xs H Q => ∃ x, xs = [x] ∧ InsC C H x ∧ sp [x] H Q E) := by
  intro pins s σ H xs us Q I r h
  obtain ⟨x, rfl, ⟨a, dx, fs, rfl, ha⟩, h⟩ := h
  obtain ⟨u, rfl, r1⟩ := vals1 r
  cases (show u = Value.ref a from r1)
  obtain ⟨mA, J, _⟩ := ins_get I.hok ha
  obtain ⟨od, J, _⟩ := J.look
  refine PySem.Calls.call_function_entry kind_abs plain_abs entry_abs (args_abs _) ?_
  unfold Builtin.«abs»
  refine wpAny_bind (m := oneArg "abs" _) (wpAny_pure ?_)
  refine wpAny_bind (special_fn I.kIn J O.fn (beq_iff_eq.mp O.isf) (wpAny_mono (run_fn1 (us := [.ref a]) (vs := [.ref a]) G hr hb hx I (.cons rfl .nil) h) (fun v s' z => ?_) fun _ _ z => z))
  exact wpAny_pure ⟨_, rfl, z⟩
end
end Ps

/-! Fractions in lowest terms, in plain Lean. -/
namespace Ps
def lowG (t u : Int) : Int := if u < 0 then -(Int.gcd t u : Int) else (Int.gcd t u : Int)
/-- what Share keeps of a top and an under -/
def low (t u : Int) : Int × Int := (t.fdiv (lowG t u), u.fdiv (lowG t u))
theorem gcd_pos {t u : Int} (hu : u ≠ 0) : 0 < Int.gcd t u := Int.gcd_pos_of_ne_zero_right t hu
theorem lowG_ne {t u : Int} (hu : u ≠ 0) : lowG t u ≠ 0 := by
  have h := gcd_pos (t := t) hu
  unfold lowG
  split <;> omega
theorem lowG_abs (t u : Int) : (lowG t u).natAbs = Int.gcd t u := by
  unfold lowG
  split <;> omega
theorem lowG_dvd_left (t u : Int) : lowG t u ∣ t := by
  have h : (Int.gcd t u : Int) ∣ t := Int.gcd_dvd_left ..
  unfold lowG
  split
  · exact Int.neg_dvd.mpr h
  · exact h
theorem lowG_dvd_right (t u : Int) : lowG t u ∣ u := by
  have h : (Int.gcd t u : Int) ∣ u := Int.gcd_dvd_right ..
  unfold lowG
  split
  · exact Int.neg_dvd.mpr h
  · exact h
theorem low_fst {t u : Int} (hu : u ≠ 0) : (low t u).1 * lowG t u = t := by
  obtain ⟨c, hc⟩ := lowG_dvd_left t u
  show t.fdiv (lowG t u) * lowG t u = t
  have : t.fdiv (lowG t u) = c := by
    rw [Int.fdiv_eq_of_eq_mul_right (lowG_ne hu) hc]
  rw [this, Int.mul_comm, ← hc]
theorem low_snd {t u : Int} (hu : u ≠ 0) : (low t u).2 * lowG t u = u := by
  obtain ⟨c, hc⟩ := lowG_dvd_right t u
  show u.fdiv (lowG t u) * lowG t u = u
  have : u.fdiv (lowG t u) = c := by
    rw [Int.fdiv_eq_of_eq_mul_right (lowG_ne hu) hc]
  rw [this, Int.mul_comm, ← hc]
theorem lowG_scale (k t u : Int) (hu : u ≠ 0) (hk : k ≠ 0) : lowG (k * t) (k * u) = k * lowG t u := by
  unfold lowG
  rw [Int.gcd_mul_left]
  have e : ((k.natAbs * Int.gcd t u : Nat) : Int) = (k.natAbs : Int) * (Int.gcd t u : Int) := by push_cast; rfl
  rw [e]
  rcases Int.lt_or_gt_of_ne hk with h | h
  · have ek : (k.natAbs : Int) = -k := by omega
    rw [ek]
    rcases Int.lt_or_gt_of_ne hu with h' | h'
    · have : 0 < k * u := Int.mul_pos_of_neg_of_neg h h'
      rw [if_neg (by omega), if_pos h', Int.neg_mul, Int.mul_neg]
    · have : k * u < 0 := Int.mul_neg_of_neg_of_pos h h'
      rw [if_pos this, if_neg (by omega), Int.neg_mul, Int.neg_neg]
  · have ek : (k.natAbs : Int) = k := by omega
    rw [ek]
    rcases Int.lt_or_gt_of_ne hu with h' | h'
    · have : k * u < 0 := Int.mul_neg_of_pos_of_neg h h'
      rw [if_pos this, if_pos h', Int.mul_neg]
    · have : 0 < k * u := Int.mul_pos h h'
      rw [if_neg (by omega), if_neg (by omega)]
/-- from an equation by products -/
theorem fdiv_of {a b c : Int} (hb : b ≠ 0) (h : a = c * b) : a.fdiv b = c := by
  rw [Int.fdiv_eq_of_eq_mul_right hb (by rw [h, Int.mul_comm])]
theorem low_scale (k t u : Int) (hu : u ≠ 0) (hk : k ≠ 0) : low (k * t) (k * u) = low t u := by
  have h1 := low_fst (t := t) hu
  have h2 := low_snd (t := t) hu
  have hg := lowG_ne (t := t) hu
  have hkg : k * lowG t u ≠ 0 := Int.mul_ne_zero hk hg
  unfold low
  rw [lowG_scale k t u hu hk]
  refine Prod.ext ?_ ?_
  · show (k * t).fdiv (k * lowG t u) = (low t u).1
    refine fdiv_of hkg ?_
    rw [show (low t u).1 * (k * lowG t u) = k * ((low t u).1 * lowG t u) by rw [Int.mul_left_comm], h1]
  · show (k * u).fdiv (k * lowG t u) = (low t u).2
    refine fdiv_of hkg ?_
    rw [show (low t u).2 * (k * lowG t u) = k * ((low t u).2 * lowG t u) by rw [Int.mul_left_comm], h2]
/-- the same fraction -/
theorem low_of {t u a b k : Int} (hb : b ≠ 0) (hk : k ≠ 0) (h1 : t = k * a) (h2 : u = k * b) : low t u = low a b := by
  rw [h1, h2, low_scale k a b hb hk]
theorem low_pos {t u : Int} (hu : u ≠ 0) : 0 < (low t u).2 := by
  have h2 := low_snd (t := t) hu
  have hg := gcd_pos (t := t) hu
  unfold lowG at h2
  rcases Int.lt_or_gt_of_ne hu with h | h
  · rw [if_pos h] at h2
    rcases Int.lt_trichotomy (low t u).2 0 with z | z | z
    · have := Int.mul_pos_of_neg_of_neg z (show -(Int.gcd t u : Int) < 0 by omega)
      omega
    · rw [z, Int.zero_mul] at h2; omega
    · exact z
  · rw [if_neg (by omega)] at h2
    rcases Int.lt_trichotomy (low t u).2 0 with z | z | z
    · have := Int.mul_neg_of_neg_of_pos z (show (0 : Int) < (Int.gcd t u : Int) by omega)
      omega
    · rw [z, Int.zero_mul] at h2; omega
    · exact z
theorem low_le1 {t u : Int} (hu : u ≠ 0) : (low t u).1.natAbs ≤ t.natAbs := by
  have h := congrArg Int.natAbs (low_fst (t := t) hu)
  rw [Int.natAbs_mul, lowG_abs] at h
  rw [← h]
  exact Nat.le_mul_of_pos_right _ (gcd_pos hu)
theorem low_le2 {t u : Int} (hu : u ≠ 0) : (low t u).2.natAbs ≤ u.natAbs := by
  have h := congrArg Int.natAbs (low_snd (t := t) hu)
  rw [Int.natAbs_mul, lowG_abs] at h
  rw [← h]
  exact Nat.le_mul_of_pos_right _ (gcd_pos hu)
theorem low_gcd {t u : Int} (hu : u ≠ 0) : Int.gcd (low t u).1 (low t u).2 = 1 := by
  have h1 := low_fst (t := t) hu
  have h2 := low_snd (t := t) hu
  have e : Int.gcd t u = Int.gcd (low t u).1 (low t u).2 * Int.gcd t u := by
    have := Int.gcd_mul_right (low t u).1 (lowG t u) (low t u).2
    rw [h1, h2, lowG_abs] at this
    exact this
  have hg := gcd_pos (t := t) hu
  have := Nat.eq_of_mul_eq_mul_right hg (show 1 * Int.gcd t u = Int.gcd (low t u).1 (low t u).2 * Int.gcd t u by rw [Nat.one_mul]; exact e)
  exact this.symm
theorem low_id {t u : Int} (hu : 0 < u) (hg : Int.gcd t u = 1) : low t u = (t, u) := by
  have e : lowG t u = 1 := by
    unfold lowG
    rw [if_neg (by omega), hg]; rfl
  unfold low
  rw [e, Int.fdiv_one, Int.fdiv_one]
theorem low_low {t u : Int} (hu : u ≠ 0) : low (low t u).1 (low t u).2 = low t u := by
  rw [low_id (low_pos hu) (low_gcd hu)]
theorem low_one (t : Int) : low t 1 = (t, 1) := low_id (by decide) (by simp)
/-! sums, products and quotients of fractions in lowest terms -/
theorem low_ex (t : Int) {u : Int} (hu : u ≠ 0) : ∃ a b g, low t u = (a, b) ∧ g ≠ 0 ∧ 0 < b ∧ t = a * g ∧ u = b * g :=
  ⟨(low t u).1, (low t u).2, lowG t u, rfl, lowG_ne hu, low_pos hu, (low_fst hu).symm, (low_snd hu).symm⟩
theorem low_add {t u c d : Int} (hu : u ≠ 0) (hd : d ≠ 0) : low ((low t u).1 * (low c d).2 + (low c d).1 * (low t u).2) ((low t u).2 * (low c d).2) = low (t * d + c * u) (u * d) := by
  obtain ⟨a, b, g, e1, hg, hb, rfl, rfl⟩ := low_ex t hu
  obtain ⟨p, q, h, e2, hh, hq, rfl, rfl⟩ := low_ex c hd
  rw [e1, e2]
  symm
  refine low_of (k := g * h) (Int.ne_of_gt (Int.mul_pos hb hq)) (Int.mul_ne_zero hg hh) ?_ ?_
  · show a * g * (q * h) + p * h * (b * g) = g * h * (a * q + p * b)
    grind
  · show b * g * (q * h) = g * h * (b * q)
    grind
theorem low_sub {t u c d : Int} (hu : u ≠ 0) (hd : d ≠ 0) : low ((low t u).1 * (low c d).2 + -(low c d).1 * (low t u).2) ((low t u).2 * (low c d).2) = low (t * d - c * u) (u * d) := by
  obtain ⟨a, b, g, e1, hg, hb, rfl, rfl⟩ := low_ex t hu
  obtain ⟨p, q, h, e2, hh, hq, rfl, rfl⟩ := low_ex c hd
  rw [e1, e2]
  symm
  refine low_of (k := g * h) (Int.ne_of_gt (Int.mul_pos hb hq)) (Int.mul_ne_zero hg hh) ?_ ?_
  · show a * g * (q * h) - p * h * (b * g) = g * h * (a * q + -p * b)
    grind
  · show b * g * (q * h) = g * h * (b * q)
    grind
theorem low_mul {t u c d : Int} (hu : u ≠ 0) (hd : d ≠ 0) : low ((low t u).1 * (low c d).1) ((low t u).2 * (low c d).2) = low (t * c) (u * d) := by
  obtain ⟨a, b, g, e1, hg, hb, rfl, rfl⟩ := low_ex t hu
  obtain ⟨p, q, h, e2, hh, hq, rfl, rfl⟩ := low_ex c hd
  rw [e1, e2]
  symm
  refine low_of (k := g * h) (Int.ne_of_gt (Int.mul_pos hb hq)) (Int.mul_ne_zero hg hh) ?_ ?_
  · show a * g * (p * h) = g * h * (a * p)
    grind
  · show b * g * (q * h) = g * h * (b * q)
    grind
theorem low_ne0 {t u : Int} (hu : u ≠ 0) : (low t u).1 = 0 ↔ t = 0 := by
  have h := low_fst (t := t) hu
  constructor
  · intro z
    rw [z, Int.zero_mul] at h
    exact h.symm
  · intro z
    rw [z] at h
    rcases Int.mul_eq_zero.mp h with y | y
    · rw [z]; exact y
    · exact absurd y (lowG_ne hu)
theorem low_by {t u c d : Int} (hu : u ≠ 0) (hd : d ≠ 0) (hc : c ≠ 0) : low ((low t u).1 * (low c d).2) ((low t u).2 * (low c d).1) = low (t * d) (u * c) := by
  have z : ¬ (low c d).1 = 0 := fun y => hc ((low_ne0 (t := c) hd).mp y)
  obtain ⟨a, b, g, e1, hg, hb, rfl, rfl⟩ := low_ex t hu
  obtain ⟨p, q, h, e2, hh, hq, rfl, rfl⟩ := low_ex c hd
  rw [e2] at z
  rw [e1, e2]
  symm
  refine low_of (k := g * h) (Int.mul_ne_zero (Int.ne_of_gt hb) z) (Int.mul_ne_zero hg hh) ?_ ?_
  · show a * g * (q * h) = g * h * (a * q)
    grind
  · show b * g * (p * h) = g * h * (b * p)
    grind
theorem low_neg {t u : Int} (hu : u ≠ 0) : low (-(low t u).1) (low t u).2 = low (-t) u := by
  obtain ⟨a, b, g, e1, hg, hb, rfl, rfl⟩ := low_ex t hu
  rw [e1]
  symm
  refine low_of (k := g) (Int.ne_of_gt hb) hg ?_ ?_
  · show -(a * g) = g * -a
    grind
  · show b * g = g * b
    grind
/-- a fraction in lowest terms, its sign turned -/
theorem low_neg_eq {t u : Int} (hu : u ≠ 0) : low (-t) u = (-(low t u).1, (low t u).2) := by
  rw [← low_neg hu]
  refine low_id (low_pos hu) ?_
  rw [Int.neg_gcd]
  exact low_gcd hu
def iabs (i : Int) : Int := if i < 0 then -i else i
theorem iabs_eq (i : Int) : iabs i = (i.natAbs : Int) := by unfold iabs; split <;> omega
theorem low_abs {t u : Int} (hu : u ≠ 0) : low (iabs (low t u).1) (low t u).2 = low (iabs t) (iabs u) := by
  obtain ⟨a, b, g, e1, hg, hb, rfl, rfl⟩ := low_ex t hu
  rw [e1, iabs_eq, iabs_eq, iabs_eq]
  symm
  refine low_of (k := g.natAbs) (Int.ne_of_gt hb) (by omega) ?_ ?_
  · show ((a * g).natAbs : Int) = g.natAbs * (a.natAbs : Int)
    rw [Int.natAbs_mul, Int.natCast_mul, Int.mul_comm]
  · show ((b * g).natAbs : Int) = g.natAbs * b
    rw [Int.natAbs_mul, Int.natCast_mul, Int.mul_comm, show (b.natAbs : Int) = b by omega]
theorem low_floor {t u : Int} (hu : u ≠ 0) : (low t u).1 / (low t u).2 = t.fdiv u := by
  obtain ⟨a, b, g, e1, hg, hb, rfl, rfl⟩ := low_ex t hu
  rw [e1]
  show a / b = (a * g).fdiv (b * g)
  rcases Int.lt_or_gt_of_ne hg with h | h
  · rw [show a * g = -(a * -g) by grind, show b * g = -(b * -g) by grind, Int.neg_fdiv_neg, Int.fdiv_eq_ediv_of_nonneg _ (Int.le_of_lt (Int.mul_pos hb (by omega))), Int.mul_ediv_mul_of_pos_left _ _ (by omega)]
  · rw [Int.fdiv_eq_ediv_of_nonneg _ (Int.le_of_lt (Int.mul_pos hb h)), Int.mul_ediv_mul_of_pos_left _ _ h]
theorem gcd_step {x y : Int} (hx : 0 ≤ x) (hy : 0 ≤ y) : Int.gcd y (x % y) = Int.gcd x y := by
  obtain ⟨m, rfl⟩ := Int.eq_ofNat_of_zero_le hx
  obtain ⟨n, rfl⟩ := Int.eq_ofNat_of_zero_le hy
  rw [← Int.natCast_emod, Int.gcd_natCast_natCast, Int.gcd_natCast_natCast, Nat.gcd_comm n, ← Nat.gcd_rec, Nat.gcd_comm]
end Ps

/-! Defs, methods, classes, operators, properties of the text as things to be called, their addresses hidden. -/
namespace Ps
open PySem PySem.Spec PyProof.Rows PySem.W L2

/-- where one stands, the same for all defs of the text -/
structure Cz where
  P : Program
  w : World
  K : Frag
  mg : Str → Option Value
  base : Heap
abbrev Cz.ok (Z : Cz) (CX : CXT) (k : Nat) (f : Addr) (fd : FuncData) (ps : List Str) (sp : Sp) : Prop := FnOk Z.P Z.w Z.K Z.mg Z.base CX k f fd ps sp
/-- a def -/
def Cal (Z : Cz) (CX : CXT) (k : Nat) (x : Str) (ps : List Str) (dvs : List V) (sp : Sp) : Prop := ∃ f fd ds, Z.ok CX k f fd ps sp ∧ Z.mg x = some (.ref f) ∧ keepIn Z.K (.ref f) = true ∧ Binds Z.K fd ps ds ∧ Vals dvs ds
/-- a method m of the class at C -/
def CalM (Z : Cz) (CX : CXT) (k : Nat) (C : Addr) (m : Str) (ps : List Str) (dvs : List V) (sp : Sp) : Prop := ∃ f fd ds, Z.ok CX k f fd ps sp ∧ Meth Z.K C m f ∧ Cls Z.K C ∧ Binds Z.K fd ps ds ∧ Vals dvs ds
/-- the class at C, made by its __init__ -/
def CalC (Z : Cz) (CX : CXT) (k : Nat) (C : Addr) (x : Str) (ps : List Str) (dvs : List V) (sp : Sp) : Prop := ∃ f fd ds, Z.ok CX k f fd ps sp ∧ Mk Z.K C f ∧ Z.mg x = some (.ref C) ∧ Binds Z.K fd ps ds ∧ Vals dvs ds
/-- a special method nm of the class at C -/
def CalS (Z : Cz) (CX : CXT) (k : Nat) (C : Addr) (nm : Str) (ps : List Str) (sp : Sp) : Prop := ∃ f fd, Z.ok CX k f fd ps sp ∧ OwnOp Z.K C f nm ∧ Binds Z.K fd ps []
/-- a property -/
def CalP (Z : Cz) (CX : CXT) (k : Nat) (C : Addr) (nm : Str) (sp : Sp) : Prop := ∃ p g fd ds, Z.ok CX k g fd ["self"] sp ∧ PropOf Z.K C nm p g ∧ Cls Z.K C ∧ Binds Z.K fd ["self"] ds ∧ Vals [] ds

/-- a body stands in Z -/
structure InZ (Z : Cz) (X : Cx) : Prop where
  P : X.prog = Z.P
  w : X.w = Z.w
  K : X.K = Z.K
  mg : X.mg = Z.mg
  base : X.base = Z.base

section
variable {Z : Cz} {X : Cx} {CX : CXT} {k : Nat} {C : Addr} {ps : List Str} {sp : Sp} {dvs : List V} {E : XK} {x m nm : Str} {p pos apos : Pos} {e o a b : Expr} {es : List Expr} {ta tb : TE} {t : TA}
theorem InZ.ok (z : InZ Z X) {f : Addr} {fd : FuncData} (G : Z.ok CX k f fd ps sp) : FnOk X.prog X.w X.K X.mg X.base CX k f fd ps sp := by
  obtain ⟨h1, h2, h3, h4, h5⟩ := z
  rw [h1, h2, h3, h4, h5]
  exact G
theorem pe_cal (c : Cal Z CX k x ps dvs sp) (hr : Room k X.A) (hg : Gl X x) (hx : Passes CX X E) (ha : PA X (e :: es) t) (z : InZ Z X := by exact ⟨rfl, rfl, rfl, rfl, rfl⟩)
    (hdb : (x == ("__debug__" : Str)) = false := by decide) (he : starEach (e :: es) X.env = (false, eval e X.env) :: starEach es X.env := by rfl) (hpl : (backTo pos (starEach es X.env)).any (·.1) = false := by rfl) :
    PE X (.Call (.Name x p) (e :: es) [] pos) (tCall sp dvs E t) := by
  obtain ⟨f, fd, ds, G, h1, h2, h3, h4⟩ := c
  exact pe_call (z.ok G) hr hg (by rw [z.mg]; exact h1) (by rw [z.K]; exact h2) (by rw [z.K]; exact h3) h4 hx ha hdb he hpl
theorem pe_cal0 (c : Cal Z CX k x ps dvs sp) (hr : Room k X.A) (hg : Gl X x) (hx : Passes CX X E) (z : InZ Z X := by exact ⟨rfl, rfl, rfl, rfl, rfl⟩)
    (hdb : (x == ("__debug__" : Str)) = false := by decide) : PE X (.Call (.Name x p) [] [] pos) (tCall sp dvs E tNil) := by
  obtain ⟨f, fd, ds, G, h1, h2, h3, h4⟩ := c
  exact pe_call0 (z.ok G) hr hg (by rw [z.mg]; exact h1) (by rw [z.K]; exact h2) (by rw [z.K]; exact h3) h4 hx hdb
theorem pe_calM {pl : Sem Bool} (c : CalM Z CX k C m ps dvs sp) (hr : Room k X.A) (hx : Passes CX X E) (he : PE X o ta) (ha : PA X (e :: es) t) (z : InZ Z X := by exact ⟨rfl, rfl, rfl, rfl, rfl⟩)
    (hst : starEach (e :: es) X.env = (false, eval e X.env) :: starEach es X.env := by rfl) (hpl : (backTo pos (starEach es X.env)).any (·.1) = false := by rfl)
    (ht : eval (.Call (.Attribute o m apos) (e :: es) [] pos) X.env = (do
      let ov ← eval o X.env
      standAt apos.atName
      let (f, first) ← holding [ov] (getMethod ov m pl)
      callWith pos f first (backTo pos (starEach (e :: es) X.env)) (backToKw pos (keywordEach [] X.env))) := by rfl) :
    PE X (.Call (.Attribute o m apos) (e :: es) [] pos) (tMeth C m sp dvs E ta t) := by
  obtain ⟨f, fd, ds, G, h1, h2, h3, h4⟩ := c
  exact pe_meth (pl := pl) he (by rw [z.K]; exact h2) (by rw [z.K]; exact h1) (z.ok G) hr (by rw [z.K]; exact h3) h4 hx ha hst hpl ht
theorem pe_calM0 {pl : Sem Bool} (c : CalM Z CX k C m ps dvs sp) (hr : Room k X.A) (hx : Passes CX X E) (he : PE X o ta) (z : InZ Z X := by exact ⟨rfl, rfl, rfl, rfl, rfl⟩)
    (ht : eval (.Call (.Attribute o m apos) [] [] pos) X.env = (do
      let ov ← eval o X.env
      standAt apos.atName
      let (f, first) ← holding [ov] (getMethod ov m pl)
      callWith pos f first (backTo pos (starEach [] X.env)) (backToKw pos (keywordEach [] X.env))) := by rfl) :
    PE X (.Call (.Attribute o m apos) [] [] pos) (tMeth C m sp dvs E ta tNil) := by
  obtain ⟨f, fd, ds, G, h1, h2, h3, h4⟩ := c
  exact pe_meth0 (pl := pl) he (by rw [z.K]; exact h2) (by rw [z.K]; exact h1) (z.ok G) hr (by rw [z.K]; exact h3) h4 hx ht
theorem pe_calC (c : CalC Z CX k C x ps dvs sp) (hr : Room (k + 1) X.A) (hg : Gl X x) (hx : Passes CX X E) (ha : PA X (e :: es) t) (z : InZ Z X := by exact ⟨rfl, rfl, rfl, rfl, rfl⟩)
    (hdb : (x == ("__debug__" : Str)) = false := by decide) (he : starEach (e :: es) X.env = (false, eval e X.env) :: starEach es X.env := by rfl) (hpl : (backTo pos (starEach es X.env)).any (·.1) = false := by rfl) :
    PE X (.Call (.Name x p) (e :: es) [] pos) (tMake C sp dvs E t) := by
  obtain ⟨f, fd, ds, G, h1, h2, h3, h4⟩ := c
  exact pe_make (by rw [z.K]; exact h1) (z.ok G) hr hg (by rw [z.mg]; exact h2) (by rw [z.K]; exact h3) h4 hx ha hdb he hpl
theorem pe_calP (c : CalP Z CX k C nm sp) (hr : Room (k + 1) X.A) (hx : Passes CX X.nox E) (he : PE X e ta) (hab : attributeBase e nm X.env (eval e X.env) = eval e X.env) (z : InZ Z X := by exact ⟨rfl, rfl, rfl, rfl, rfl⟩) : PE X (.Attribute e nm pos) (tProp C sp [] E ta) := by
  obtain ⟨p, g, fd, ds, G, h1, h2, h3, h4⟩ := c
  exact pe_prop he (by rw [z.K]; exact h2) (by rw [z.K]; exact h1) (z.ok G) hr (by rw [z.K]; exact h3) h4 hx hab

/-- what is known of the number methods of a class and of int's -/
structure NumF (K : Frag) (C : Addr) (nm : String) : Prop where
  l : ∃ f, findIn K (.ref C) (PySem.dunder nm) = some (some (.ref f))
  r : ∃ f, findIn K (.ref C) (dunderR nm) = some (some (.ref f))
  il : ∃ o, findIn K (.type "int") (PySem.dunder nm) = some o
  ir : ∃ o, findIn K (.type "int") (dunderR nm) = some o
  sub : subIn K (.type "int") (.ref C) = some false
  sup : subIn K (.ref C) (.type "int") = some false
/-- a number on the right: x + y, x an own instance, y one or an int -/
def rNum (C : Addr) (sp : Sp) (E : XK) : R2 := fun x y H Q => InsC C H x ∧ (InsC C H y ∨ ∃ i, y = .int i) ∧ sp [x, y] H Q E
theorem op_num {op : Operator} (c : CalS Z CX k C (PySem.dunder op.info.2) ps sp) (N : NumF Z.K C op.info.2) (hr : Room k X.A) (hx : Passes CX X E) (z : InZ Z X := by exact ⟨rfl, rfl, rfl, rfl, rfl⟩) : OpR X (binaryOp op) (rNum C sp E) := by
  obtain ⟨f, fd, G, h1, h2⟩ := c
  obtain ⟨_, ⟨fr, hfr⟩, ⟨o1, ho1⟩, ⟨o2, ho2⟩, hs1, hs2⟩ := N
  have z' := z
  obtain ⟨e1, e2, e3, e4, e5⟩ := z
  intro pins s σ H x y v u Q I rx ry h
  obtain ⟨hx', hy | hy, hsp⟩ := h
  · exact op_own (by rw [e3]; exact h1) (z'.ok G) hr (by rw [e3]; exact h2) hx pins s σ H x y v u Q I rx ry ⟨hx', hy, hsp⟩
  · exact op_ownI (rc := some (.ref fr)) (by rw [e3]; exact h1) (by rw [e3]; exact hfr) (.inr ⟨fr, rfl⟩) (by rw [e3]; exact ho1) (by rw [e3]; exact ho2) (by rw [e3]; exact hs1) (z'.ok G) hr (by rw [e3]; exact h2) hx pins s σ H x y v u Q I rx ry ⟨hx', hy, hsp⟩
theorem op_rev {op : Operator} {id : String} (c : CalS Z CX k C (dunderR op.info.2) ps sp) (N : NumF Z.K C op.info.2) (hfl : fillsNumberSlot (.type "int") op.info.2 = pure true) (sl : Slot "int" (PySem.dunder op.info.2) id)
    (hd : ∀ {s : Shared} {x C dx : Addr} {t : Tok} {i : Int} {Q : Value → Shared → Prop}, s.heap.get? x = some (instObj C dx) → Q .notImplemented s → wpAny (model X.prog X.w) X.A (call (.builtin id) [.int i t, .ref x]) Q X.xe s)
    (hr : Room k X.A) (hx : Passes CX X E) (z : InZ Z X := by exact ⟨rfl, rfl, rfl, rfl, rfl⟩) : OpR X (binaryOp op) (rRefI C sp E) := by
  obtain ⟨f, fd, G, h1, h2⟩ := c
  obtain ⟨⟨fl, hfl'⟩, _, _, _, hs1, hs2⟩ := N
  have z' := z
  obtain ⟨e1, e2, e3, e4, e5⟩ := z
  exact op_refI (f' := fl) (by rw [e3]; exact h1) (by rw [e3]; exact hfl') (by rw [e3]; exact hs2) hfl sl hd (z'.ok G) hr (by rw [e3]; exact h2) hx
theorem op_radd (c : CalS Z CX k C "__radd__" ps sp) (N : NumF Z.K C "add") (hr : Room k X.A) (hx : Passes CX X E) (z : InZ Z X := by exact ⟨rfl, rfl, rfl, rfl, rfl⟩) : OpR X (binaryOp .Add) (rRefI C sp E) :=
  op_rev (op := .Add) c N F.fills_int_add F.slot_int_add (fun h q => dec_add h q) hr hx z
theorem op_rsub (c : CalS Z CX k C "__rsub__" ps sp) (N : NumF Z.K C "sub") (hr : Room k X.A) (hx : Passes CX X E) (z : InZ Z X := by exact ⟨rfl, rfl, rfl, rfl, rfl⟩) : OpR X (binaryOp .Sub) (rRefI C sp E) :=
  op_rev (op := .Sub) c N F.fills_int_sub F.slot_int_sub (fun h q => dec_sub h q) hr hx z
theorem op_rmul (c : CalS Z CX k C "__rmul__" ps sp) (N : NumF Z.K C "mul") (hr : Room k X.A) (hx : Passes CX X E) (z : InZ Z X := by exact ⟨rfl, rfl, rfl, rfl, rfl⟩) : OpR X (binaryOp .Mult) (rRefI C sp E) :=
  op_rev (op := .Mult) c N F.fills_int_mul F.slot_int_mul (fun h q => dec_mul h q) hr hx z
theorem un_cal (c : CalS Z CX k C "__neg__" ps sp) (hr : Room k X.A) (hx : Passes CX X E) (z : InZ Z X := by exact ⟨rfl, rfl, rfl, rfl, rfl⟩) : UnR X (unaryOp .USub) (rUOwn C sp E) := by
  obtain ⟨f, fd, G, h1, h2⟩ := c
  have z' := z
  obtain ⟨e1, e2, e3, e4, e5⟩ := z
  exact un_own (by rw [e3]; exact h1) (z'.ok G) hr (by rw [e3]; exact h2) hx
theorem abs_cal (c : CalS Z CX k C "__abs__" ps sp) (hr : Room (k + 1) X.A) (hx : Passes CX X E) (z : InZ Z X := by exact ⟨rfl, rfl, rfl, rfl, rfl⟩) : CallR X (.builtin "abs") (fun xs H Q => ∃ x, xs = [x] ∧ InsC C H x ∧ sp [x] H Q E) := by
  obtain ⟨f, fd, G, h1, h2⟩ := c
  have z' := z
  obtain ⟨e1, e2, e3, e4, e5⟩ := z
  exact call_absO (by rw [e3]; exact h1) (z'.ok G) hr (by rw [e3]; exact h2) hx
end
/-! ### tests -/
theorem iteD {c A B : Prop} [Decidable c] (h1 : c → A) (h2 : ¬ c → B) : if decide c = true then A else B := by
  by_cases h : c
  · rw [decide_eq_true h]; exact iteT (h1 h)
  · rw [decide_eq_false h]; exact iteF (h2 h)
theorem iteND {c A B : Prop} [Decidable c] (h1 : ¬ c → A) (h2 : c → B) : if (!decide c) = true then A else B := by
  by_cases h : c
  · rw [decide_eq_true h]; exact iteF (h2 h)
  · rw [decide_eq_false h]; exact iteT (h1 h)
theorem iteB {b : Bool} {A B : Prop} (h1 : b = true → A) (h2 : b = false → B) : if b = true then A else B := by
  cases b with
  | true => exact iteT (h1 rfl)
  | false => exact iteF (h2 rfl)
/-! ### short words for built-ins -/
section
variable {X : Cx} {e : Expr} {te : TE} {p pos : Pos}
/-- int(e) of an int -/
def rInt1 : List V → Hp → VK → Prop := fun xs H Q => ∃ i, xs = [.int i] ∧ Q (.int i) H
theorem call_intI : CallR X (.type "int") rInt1 := by
  intro pins s σ H xs us Q I r h
  exact call_int1 pins s σ H xs us Q I r (.inl h)
theorem pe_int1 (hg : Gl X "int") (hm : X.mg "int" = none) (he : PE X e te) (hs : starEach (e :: []) X.env = (false, eval e X.env) :: starEach [] X.env := by rfl) (hpl : (backTo pos (starEach [] X.env)).any (·.1) = false := by rfl) : PE X (.Call (.Name "int" p) [e] [] pos) (tCB rInt1 (tCons te tNil)) :=
  pe_callTy call_intI hg hm (by decide +kernel) (pa_cons he pa_nil hs) (by decide) (by decide) hs hpl
end
/-! ### from what stands behind the top -/
section
variable {Z : Cz} {CX : CXT} {k : Nat} {C : Addr} {ps : List Str} {sp : Sp} {dvs : List V} {x m nm qual : Str} {st : Stmt}
theorem Cal.mono {j : Nat} (c : Cal Z CX k x ps dvs sp) (h : k ≤ j) : Cal Z CX j x ps dvs sp := by
  obtain ⟨f, fd, ds, G, h1⟩ := c
  exact ⟨f, fd, ds, G.mono h, h1⟩
theorem CalM.mono {j : Nat} (c : CalM Z CX k C x ps dvs sp) (h : k ≤ j) : CalM Z CX j C x ps dvs sp := by
  obtain ⟨f, fd, ds, G, h1⟩ := c
  exact ⟨f, fd, ds, G.mono h, h1⟩
theorem CalS.mono {j : Nat} (c : CalS Z CX k C x ps sp) (h : k ≤ j) : CalS Z CX j C x ps sp := by
  obtain ⟨f, fd, G, h1⟩ := c
  exact ⟨f, fd, G.mono h, h1⟩
end
end Ps

/-! Shares: the promises of the defs of shares.py where nothing is raised. -/
namespace Ps
open PySem PySem.Spec PyProof.Rows PySem.W L2

/-! ### floor division by any divisor but 0, below 2 ^ 9000 -/
def CDivG (_ j : Int) : Prop := j ≠ 0 ∧ j.natAbs.log2 < 9000
theorem op_fdivG {X : Cx} : OpR X (binaryOp .FloorDiv) (rI CDivG fun i j => .int (i.fdiv j)) := opI fun i j _ _ _ _ _ hc q => floordiv_int hc.1 q (.inl (PyProof.noPylong_of_log2 hc.2))
theorem divG {i j : Int} {b : Nat} (h : j ≠ 0) (hb : j.natAbs < 2 ^ b) (h0 : 0 < b) (h9 : b ≤ 9000) : CDivG i j := ⟨h, Nat.lt_of_lt_of_le (PySem.Flt.log2_lt_of h0 hb) h9⟩

/-- the name of a built-in class -/
theorem pe_ty {X : Cx} {x : Str} {pos : Pos} (T : String) (hg : Gl X x) (hm : X.mg x = none) (hv : bootBuiltins x = some (.type T)) (hn : x ≠ "__name__" := by decide) (hd : (x == ("__debug__" : Str)) = false := by decide) : PE X (.Name x pos) (tC (.ty T)) := pe_bltn hg hm hv rfl hn hd

/-! ### the data -/
def shF (t u : Int) : List (Str × V) := [("own_top", .int t), ("own_under", .int u)]
/-- v is a share t / u -/
def Sh (C : Addr) (H : Hp) (v : V) (q : Int × Int) : Prop := ∃ a dx, v = .ref a ∧ H a = some (.ins C dx (shF q.1 q.2))
theorem Sh.mono {C : Addr} {H H' : Hp} {v : V} {q : Int × Int} (e : Same H H') (h : Sh C H v q) : Sh C H' v q := by
  obtain ⟨a, dx, hv, h⟩ := h
  exact ⟨a, dx, hv, e _ _ h⟩
theorem Sh.ins {C : Addr} {H : Hp} {v : V} {q : Int × Int} (h : Sh C H v q) : InsC C H v := by
  obtain ⟨a, dx, hv, h⟩ := h
  exact ⟨a, dx, _, hv, h⟩
theorem shF_top (t u : Int) : (shF t u).lookup ("own_top" : Str) = some (.int t) := rfl
theorem shF_under (t u : Int) : (shF t u).lookup ("own_under" : Str) = some (.int u) := by
  unfold shF
  rw [List.lookup_cons]
  rfl

/-- a number: a share or an int -/
def Nb (C : Addr) (H : Hp) (v : V) (q : Int × Int) : Prop := Sh C H v q ∨ ∃ i, v = .int i ∧ q = (i, 1)
theorem Nb.mono {C : Addr} {H H' : Hp} {v : V} {q : Int × Int} (e : Same H H') (h : Nb C H v q) : Nb C H' v q := by
  rcases h with h | h
  · exact .inl (h.mono e)
  · exact .inr h
theorem Nb.num {C : Addr} {H : Hp} {v : V} {q : Int × Int} (h : Nb C H v q) : InsC C H v ∨ ∃ i, v = .int i := by
  rcases h with h | ⟨i, h, _⟩
  · exact .inl h.ins
  · exact .inr ⟨i, h⟩
/-- sizes: both parts below 2 ^ n, the under not 0 -/
structure Sz (n : Nat) (q : Int × Int) : Prop where
  ne : q.2 ≠ 0
  t : q.1.natAbs < 2 ^ n
  u : q.2.natAbs < 2 ^ n

/-- what stands at the top of the text, as far as shares go -/
structure ShT (Z : Cz) (C : Addr) : Prop where
  cl : Cls Z.K C
  nT : NoAttr Z.K C "own_top"
  nU : NoAttr Z.K C "own_under"
  mgC : Z.mg "Share" = some (.ref C)
  isi : Z.mg "isinstance" = none
  int : Z.mg "int" = none
  bool : Z.mg "bool" = none
  abs : Z.mg "abs" = none
  ha : findIn Z.K (.ref C) "__class__" = some (some (.builtin "object.__class__"))
  hn : specialIn Z.K (.builtin "object.__class__") "__get__" = some (some (.builtin "getset_descriptor.__get__"))
  htk : takesIn Z.K (.builtin "object.__class__") = some true
  hm : mroIn Z.K C (.type "object") = some true
  kCC : kitOne Z.K (.ref C) (.ref C) = some true
  kCI : kitOne Z.K (.ref C) (.type "int") = some false
  kIC : kitOne Z.K (.type "int") (.ref C) = some false
  kTC : ∀ t ∈ ([.type "bool", .type "str", .type "NoneType", .type "list", .type "tuple", .type "dict"] : List Value), kitOne Z.K t (.ref C) = some false
theorem ShT.ty {Z : Cz} {C : Addr} (T : ShT Z C) {H : Hp} {a dx : Addr} {fs : List (Str × V)} (h : H a = some (.ins C dx fs)) : TyX Z.K H (.ref a) (.ref C) := .base (.ins h T.cl T.ha T.hn T.htk T.hm)

section
variable {Z : Cz}

/-- is_integer -/
def spIsInt (K : Frag) : Sp := fun vs H Q _ => ∃ v t, vs = [v] ∧ TyX K H v t ∧ ((t = .type "int" ∧ Q (.bl true) H) ∨ (t = .type "bool" ∧ Q (.bl false) H) ∨ (kitOne K t (.type "int") = some false ∧ Q (.bl false) H))
theorem ok_is_integer {f C : Addr} {fd : FuncData} (F : Fun Z.K "is_integer" "is_integer" s_is_integer f fd) (T : ShT Z C) : Z.ok CX0 1 f fd ["value"] (spIsInt Z.K) := by
  refine F.ok sc_is_integer (fun vs H Q E h => ?_) (fun cdv A outer s H vs Q E hr h => ?_)
  · obtain ⟨v, t, rfl, _⟩ := h
    rfl
  · obtain ⟨v, t, rfl, ty, h⟩ := h
    refine ⟨_, pss_one (ps_ret (pe_and (pe_callB call_isi (by rfl) T.isi (by decide +kernel) (pa_cons (pv 0) (pa_cons (pe_ty "int" (by rfl) T.int (by decide +kernel)) pa_nil)))
      (pe_one (pe_not (pe_callB call_isi (by rfl) T.isi (by decide +kernel) (pa_cons (pv 0) (pa_cons (pe_ty "bool" (by rfl) T.bool (by decide +kernel)) pa_nil))))))), ?_⟩
    rcases h with ⟨rfl, q⟩ | ⟨rfl, q⟩ | ⟨e, q⟩
    · refine ⟨_, rfl, _, _, _, _, true, rfl, .ty "int", ty, kit_ty (by decide +kernel), _, rfl, iteT ?_⟩
      exact ⟨_, rfl, _, _, _, _, false, rfl, .ty "bool", ty, kit_ty (by decide +kernel), _, rfl, q⟩
    · refine ⟨_, rfl, _, _, _, _, true, rfl, .ty "int", ty, kit_ty (by decide +kernel), _, rfl, iteT ?_⟩
      exact ⟨_, rfl, _, _, _, _, true, rfl, .ty "bool", ty, kit_ty (by decide +kernel), _, rfl, q⟩
    · exact ⟨_, rfl, _, _, _, _, false, rfl, .ty "int", ty, e, _, rfl, iteF q⟩

/-- common: the greatest common divisor -/
def spCommon : Sp := fun vs H Q _ => ∃ a b : Int, vs = [.int a, .int b] ∧ Q (.int (Int.gcd a b)) H
theorem ok_common {f C : Addr} {fd : FuncData} (F : Fun Z.K "common" "common" s_common f fd) (T : ShT Z C) : Z.ok CX0 1 f fd ["one", "other"] spCommon := by
  refine F.ok sc_common (fun vs H Q E h => ?_) (fun cdv A outer s H vs Q E hr h => ?_)
  · obtain ⟨a, b, rfl, _⟩ := h
    rfl
  · obtain ⟨a, b, rfl, h⟩ := h
    refine ⟨_, pss_cons (ps_set (i := 0) sc_common.nd rfl (Or.inl rfl) (pe_callB call_abs (by rfl) T.abs (by decide +kernel) (pa_cons (pv 0) pa_nil)))
      (pss_cons (ps_set (i := 1) sc_common.nd rfl (Or.inl rfl) (pe_callB call_abs (by rfl) T.abs (by decide +kernel) (pa_cons (pv 1) pa_nil)))
      (pss_cons (ps_while PassesOwn.never (pt_cmpR op_ne (pv 1) pe_int (nomark _)) (pss_one (ps_par (i := 0) (j := 1) (by rfl) sc_common.nd rfl rfl (by decide) rfl rfl (pa_cons (pv 1) (pa_cons (pe_op op_mod (pv 0) (pv 1)) pa_nil)) (by rfl))))
      (pss_one (ps_ret (pv 0))))), ?_⟩
    refine ⟨_, rfl, _, rfl, _, rfl, _, rfl, ?_⟩
    refine while_by (fun σ H' => ∃ x y : Int, σ = [some (.int x), some (.int y)] ∧ H' = H ∧ 0 ≤ x ∧ 0 ≤ y ∧ Int.gcd x y = Int.gcd a b) (fun σ _ => match σ with | [_, some (.int y)] => y.toNat | _ => 0)
      ⟨_, _, rfl, rfl, ?_, ?_, ?_⟩ (fun σ H1 z => ?_) (fun σ H1 Q Q' m z => ?_)
    · split <;> omega
    · split <;> omega
    · rw [show (if a < 0 then -a else a) = ((a.natAbs : Nat) : Int) by split <;> omega, show (if b < 0 then -b else b) = ((b.natAbs : Nat) : Int) by split <;> omega]
      rfl
    · obtain ⟨x, y, rfl, rfl, hx, hy, e⟩ := z
      refine ⟨_, rfl, rfl, _, rfl, ?_⟩
      by_cases hy0 : y = 0
      · subst hy0
        refine iteNS rfl ?_
        refine ⟨_, rfl, ?_⟩
        have e2 : Int.gcd x 0 = x.natAbs := Int.gcd_zero_right ..
        rw [e2] at e
        rw [← e] at h
        have e3 : ((x.natAbs : Nat) : Int) = x := by omega
        rw [e3] at h
        exact h
      · rw [decide_eq_false (show ¬ V.int y = V.int 0 from fun z => hy0 (V.int.inj z))]
        refine iteT ?_
        refine ⟨_, rfl, _, rfl, _, rfl, _, _, rfl, rfl, (by show (0 : Int) < y; omega), _, _, rfl, ?_⟩
        have h1 := Int.emod_nonneg x hy0
        have h2 := Int.emod_lt_of_pos x (show 0 < y by omega)
        refine ⟨⟨_, _, rfl, rfl, hy, h1, ?_⟩, ?_⟩
        · rw [← e]
          exact gcd_step hx hy
        · show (x % y).toNat < y.toNat
          omega
    · obtain ⟨v, hv, z1, k, hk, z2⟩ := z
      exact ⟨v, hv, z1, k, hk, m _ _ z2⟩

/-- Share.__init__ -/
def spShInit (C : Addr) : Sp := fun vs H Q _ => ∃ (p dx : Addr) (t u : Int), vs = [.ref p, .int t, .int u] ∧ H p = some (.ins C dx []) ∧ u ≠ 0 ∧ u.natAbs < 2 ^ 9000 ∧
  ∀ H' : Hp, (∀ b, b ≠ p → H' b = H b) → H' p = some (.ins C dx (shF (low t u).1 (low t u).2)) → Q .non H'
theorem ok_ShInit {f C : Addr} {fd : FuncData} (F : FunD Z.K "__init__" "Share.__init__" (defArgs s_Share_dd_init) (defBody s_Share_dd_init) (defScope s_Share_dd_init) [.int 1] [] f fd) (T : ShT Z C)
    (c1 : Cal Z CX0 1 "is_integer" ["value"] [] (spIsInt Z.K)) (c2 : Cal Z CX0 1 "common" ["one", "other"] [] spCommon) :
    Z.ok CX0 2 f fd ["self", "top", "under"] (spShInit C) := by
  refine F.ok sc_Share_dd_init (fun vs H Q E h => ?_) (fun cdv A outer s H vs Q E hr h => ?_)
  · obtain ⟨p, dx, t, u, rfl, _⟩ := h
    rfl
  · obtain ⟨p, dx, t, u, rfl, hp, hu, hb, k⟩ := h
    have nd := sc_Share_dd_init.nd
    refine ⟨_, pss_cons (ps_if (PW.pt (pw_or (pt_not (pt_val (pe_cal c1 hr (by rfl) pass0 (pa_cons (pv 1) pa_nil)))) (pw_or (pt_not (pt_val (pe_cal c1 hr (by rfl) pass0 (pa_cons (pv 2) pa_nil)))) (pw_or1 (pt_cmpR op_eq (pv 2) pe_int (nomark _)))))) (pss_one ps_never) pss_nil)
      (pss_cons (ps_set (i := 3) nd rfl (Or.inl rfl) (pe_cal c2 hr (by rfl) pass0 (pa_cons (pv 1) (pa_cons (pv 2) pa_nil))))
      (pss_cons (ps_if (pt_cmpR op_lt (pv 2) pe_int (nomark _)) (pss_one (ps_set (i := 3) nd rfl (Or.inl rfl) (pe_un un_neg (pv 3)))) pss_nil)
      (pss_cons (ps_fld (pv 0) (pe_op op_fdivG (pv 1) (pv 3)) rfl)
      (pss_one (ps_fld (pv 0) (pe_op op_fdivG (pv 2) (pv 3)) rfl))))), ?_⟩
    refine ⟨_, rfl, _, _, rfl, .base (.int _), .inl ⟨rfl, _, rfl, iteF ?_⟩⟩
    refine ⟨_, rfl, _, _, rfl, .base (.int _), .inl ⟨rfl, _, rfl, iteF ?_⟩⟩
    refine ⟨_, rfl, rfl, _, rfl, ?_⟩
    rw [decide_eq_false (show ¬ V.int u = V.int 0 from fun z => hu (V.int.inj z))]
    refine iteF ?_
    refine ⟨_, rfl, _, rfl, _, _, rfl, ?_⟩
    have fin : ∀ (H1 : Hp) (σ : L2.St), H1 = H → σ = [some (.ref p), some (.int t), some (.int u), some (.int (lowG t u))] → (tSeq (sFld Z.K (tVar 0) (tOp (rI CDivG fun i j => .int (i.fdiv j)) (tVar 1) (tVar 3)) "own_top") (sFld Z.K (tVar 0) (tOp (rI CDivG fun i j => .int (i.fdiv j)) (tVar 2) (tVar 3)) "own_under")) { nx := fun _ H' => Q .non H', rt := Q } σ H1 := by
      rintro H1 σ rfl rfl
      have hG : CDivG t (lowG t u) := divG (b := 9000) (lowG_ne hu) (Nat.lt_of_le_of_lt (by rw [lowG_abs]; exact Int.gcd_le_natAbs_right _ hu) hb) (by decide) (Nat.le_refl _)
      refine ⟨_, rfl, _, rfl, _, _, rfl, rfl, hG, _, rfl, p, C, dx, _, rfl, hp, T.cl, T.nT, (by show 0 < 1000; decide), ?_⟩
      refine ⟨_, rfl, _, rfl, _, _, rfl, rfl, hG, _, rfl, p, C, dx, _, rfl, upd_same, T.cl, T.nU, (by show 1 < 1000; decide), ?_⟩
      refine k _ (fun b hb => by rw [upd_ne hb, upd_ne hb]) ?_
      rw [upd_same]
      rfl
    refine ⟨_, rfl, _, _, rfl, rfl, _, rfl, ?_⟩
    by_cases h0 : u < 0
    · rw [decide_eq_true h0]
      refine iteT ?_
      refine ⟨_, rfl, _, rfl, ?_⟩
      refine fin _ _ rfl ?_
      unfold lowG
      rw [if_pos h0]
      rfl
    · rw [decide_eq_false h0]
      refine iteF ?_
      refine fin _ _ rfl ?_
      unfold lowG
      rw [if_neg h0]
      rfl
end
end Ps

/-! Shares: their operators, where nothing is raised. -/
namespace Ps
open PySem PySem.Spec PyProof.Rows PySem.W L2

theorem Same.upd {H : Hp} {p : Addr} {o : HO} (h : H p = none) : Same H (L2.upd H p o) := fun b u e => by
  rw [upd_ne (ne_of_none e h)]
  exact e
/-- Share(t, u): what its reading asks -/
theorem mk_sh {C : Addr} {H : Hp} {Q : VK} {E : XK} {t u : Int} (hu : u ≠ 0) (hb : u.natAbs < 2 ^ 9000) (k : ∀ v H', Same H H' → Sh C H' v (low t u) → Q v H') :
    ∀ x dx, H x = none → H dx = none → dx ≠ x → spShInit C [.ref x, .int t, .int u] (upd (upd H dx (.own x)) x (.ins C dx [])) (fun v H2 => v = .non ∧ Q (.ref x) H2) E := by
  intro x dx hx hdx hne
  refine ⟨x, dx, t, u, rfl, upd_same, hu, hb, fun H' h1 h2 => ⟨rfl, ?_⟩⟩
  refine k _ H' (fun b o e => ?_) ⟨x, dx, rfl, h2⟩
  rw [h1 b (ne_of_none e hx), upd_ne (ne_of_none e hx), upd_ne (ne_of_none e hdx)]
  exact e

/-- what the shares' defs promise one another -/
abbrev CShare (Z : Cz) (C : Addr) : Prop := CalC Z CX0 2 C "Share" ["self", "top", "under"] [] (spShInit C)
abbrev CShare1 (Z : Cz) (C : Addr) : Prop := CalC Z CX0 2 C "Share" ["self", "top", "under"] [.int 1] (spShInit C)
/-- from a number a share -/
def spNum (C : Addr) : Sp := fun vs H Q _ => ∃ v q, vs = [v] ∧ Nb C H v q ∧ ∀ v' H', Same H H' → Sh C H' v' q → Q v' H'
abbrev CNum (Z : Cz) (C : Addr) : Prop := Cal Z CX0 4 "share_of_number" ["value"] [] (spNum C)
/-- two numbers to a share -/
def spBin (C : Addr) (n : Nat) (g : Int × Int → Int × Int → Int × Int) : Sp := fun vs H Q _ => ∃ x y q r, vs = [x, y] ∧ Sh C H x q ∧ Nb C H y r ∧ Sz n q ∧ Sz n r ∧ ∀ v H', Same H H' → Sh C H' v (g q r) → Q v H'
def spUn (C : Addr) (n : Nat) (g : Int × Int → Int × Int) : Sp := fun vs H Q _ => ∃ x q, vs = [x] ∧ Sh C H x q ∧ Sz n q ∧ ∀ v H', Same H H' → Sh C H' v (g q) → Q v H'
def gAdd (q r : Int × Int) : Int × Int := low (q.1 * r.2 + r.1 * q.2) (q.2 * r.2)
def gMul (q r : Int × Int) : Int × Int := low (q.1 * r.1) (q.2 * r.2)
def gNeg (q : Int × Int) : Int × Int := low (-q.1) q.2
def gAbs (q : Int × Int) : Int × Int := low (iabs q.1) q.2

theorem lt_mul {i j : Int} (hi : i.natAbs < 2 ^ 4000) (hj : j.natAbs < 2 ^ 4000) : CMulW i j := wide_mul hi hj (by decide) (by decide) (by decide)
theorem mul_lt {i j : Int} (hi : i.natAbs < 2 ^ 4000) (hj : j.natAbs < 2 ^ 4000) : (i * j).natAbs < 2 ^ 9000 :=
  Nat.lt_of_lt_of_le (wide_lt hi hj) (Nat.pow_le_pow_right (by decide) (by decide))
theorem lt_up {i : Int} {m n : Nat} (h : i.natAbs < 2 ^ m) (hm : m ≤ n) : i.natAbs < 2 ^ n := Nat.lt_of_lt_of_le h (Nat.pow_le_pow_right (by decide) hm)

section
variable {Z : Cz} {f C : Addr} {fd : FuncData}
theorem ok_share_of_number (F : Fun Z.K "share_of_number" "share_of_number" s_share_of_number f fd) (T : ShT Z C) (c1 : Cal Z CX0 1 "is_integer" ["value"] [] (spIsInt Z.K)) (c2 : CShare1 Z C) : Z.ok CX0 4 f fd ["value"] (spNum C) := by
  refine F.ok sc_share_of_number (fun vs H Q E h => ?_) (fun cdv A outer s H vs Q E hr h => ?_)
  · obtain ⟨v, q, rfl, _⟩ := h
    rfl
  · obtain ⟨v, q, rfl, hv, k⟩ := h
    refine ⟨_, pss_cons (ps_if (pt_val (pe_callB call_isi (by rfl) T.isi (by decide +kernel) (pa_cons (pv 0) (pa_cons (pe_glob (v := .ref C) rfl T.mgC rfl) pa_nil)))) (pss_one (ps_ret (pv 0))) pss_nil)
      (pss_cons (ps_if (pt_not (pt_val (pe_cal c1 (hr.mono (by decide)) (by rfl) pass0 (pa_cons (pv 0) pa_nil)))) (pss_one ps_never) pss_nil)
      (pss_one (ps_ret (pe_calC c2 hr (by rfl) pass0 (pa_cons (pv 0) pa_nil))))), ?_⟩
    rcases hv with hv | ⟨i, rfl, rfl⟩
    · obtain ⟨a, dx, rfl, ha⟩ := id hv
      refine ⟨_, rfl, _, _, _, _, true, rfl, .own C, T.ty ha, T.kCC, _, rfl, iteT ?_⟩
      exact ⟨_, rfl, k _ _ (Same.refl _) hv⟩
    · refine ⟨_, rfl, _, _, _, _, false, rfl, .own C, .base (.int _), T.kIC, _, rfl, iteF ?_⟩
      refine ⟨_, rfl, _, _, rfl, .base (.int _), .inl ⟨rfl, _, rfl, iteF ?_⟩⟩
      refine ⟨_, rfl, mk_sh (by decide) (by decide +kernel) fun v' H' e z => k _ _ e ?_⟩
      rw [low_one] at z
      exact z

theorem ok_neg (F : Fun Z.K "__neg__" "Share.__neg__" s_Share_dd_neg f fd) (T : ShT Z C) (c2 : CShare Z C) : Z.ok CX0 4 f fd ["self"] (spUn C 9000 gNeg) := by
  refine F.ok sc_Share_dd_neg (fun vs H Q E h => ?_) (fun cdv A outer s H vs Q E hr h => ?_)
  · obtain ⟨v, q, rfl, _⟩ := h
    rfl
  · obtain ⟨x, q, rfl, ⟨a, dx, rfl, ha⟩, hq, k⟩ := h
    refine ⟨_, pss_one (ps_ret (pe_calC c2 hr (by rfl) pass0 (pa_cons (pe_un un_neg (pe_fld (pv 0) rfl)) (pa_cons (pe_fld (pv 0) rfl) pa_nil)))), ?_⟩
    refine ⟨_, rfl, a, C, dx, _, _, rfl, ha, T.cl, T.nT, shF_top _ _, _, rfl, _, rfl, a, C, dx, _, _, rfl, ha, T.cl, T.nU, shF_under _ _, ?_⟩
    exact mk_sh hq.ne hq.u k
theorem ok_abs (F : Fun Z.K "__abs__" "Share.__abs__" s_Share_dd_abs f fd) (T : ShT Z C) (c2 : CShare Z C) : Z.ok CX0 4 f fd ["self"] (spUn C 9000 gAbs) := by
  refine F.ok sc_Share_dd_abs (fun vs H Q E h => ?_) (fun cdv A outer s H vs Q E hr h => ?_)
  · obtain ⟨v, q, rfl, _⟩ := h
    rfl
  · obtain ⟨x, q, rfl, ⟨a, dx, rfl, ha⟩, hq, k⟩ := h
    refine ⟨_, pss_one (ps_ret (pe_calC c2 hr (by rfl) pass0 (pa_cons (pe_callB call_abs (by rfl) T.abs (by decide +kernel) (pa_cons (pe_fld (pv 0) rfl) pa_nil)) (pa_cons (pe_fld (pv 0) rfl) pa_nil)))), ?_⟩
    refine ⟨_, rfl, a, C, dx, _, _, rfl, ha, T.cl, T.nT, shF_top _ _, _, rfl, _, rfl, a, C, dx, _, _, rfl, ha, T.cl, T.nU, shF_under _ _, ?_⟩
    exact mk_sh hq.ne hq.u k
theorem ok_add (F : Fun Z.K "__add__" "Share.__add__" s_Share_dd_add f fd) (T : ShT Z C) (c1 : CNum Z C) (c2 : CShare Z C) : Z.ok CX0 5 f fd ["self", "other"] (spBin C 4000 gAdd) := by
  refine F.ok sc_Share_dd_add (fun vs H Q E h => ?_) (fun cdv A outer s H vs Q E hr h => ?_)
  · obtain ⟨x, y, q, r, rfl, _⟩ := h
    rfl
  · obtain ⟨x, y, q, r, rfl, hx, hy, hq, hr', k⟩ := h
    refine ⟨_, pss_cons (ps_set (i := 1) sc_Share_dd_add.nd rfl (Or.inl rfl) (pe_cal c1 hr (by rfl) pass0 (pa_cons (pv 1) pa_nil)))
      (pss_one (ps_ret (pe_calC c2 (hr.mono (by decide)) (by rfl) pass0 (pa_cons (pe_op op_add (pe_op op_mulW (pe_fld (pv 0) rfl) (pe_fld (pv 1) rfl)) (pe_op op_mulW (pe_fld (pv 1) rfl) (pe_fld (pv 0) rfl))) (pa_cons (pe_op op_mulW (pe_fld (pv 0) rfl) (pe_fld (pv 1) rfl)) pa_nil))))), ?_⟩
    refine ⟨_, rfl, _, r, rfl, hy, fun y' H1 e1 hy' => ?_⟩
    obtain ⟨a, dx, rfl, ha⟩ := hx.mono e1
    obtain ⟨b, dy, rfl, hb⟩ := id hy'
    refine ⟨_, rfl, a, C, dx, _, _, rfl, ha, T.cl, T.nT, shF_top _ _, _, rfl, b, C, dy, _, _, rfl, hb, T.cl, T.nU, shF_under _ _, _, _, rfl, rfl, lt_mul hq.t hr'.u, ?_⟩
    refine ⟨_, rfl, b, C, dy, _, _, rfl, hb, T.cl, T.nT, shF_top _ _, _, rfl, a, C, dx, _, _, rfl, ha, T.cl, T.nU, shF_under _ _, _, _, rfl, rfl, lt_mul hr'.t hq.u, _, _, rfl, rfl, ?_⟩
    refine ⟨_, rfl, a, C, dx, _, _, rfl, ha, T.cl, T.nU, shF_under _ _, _, rfl, b, C, dy, _, _, rfl, hb, T.cl, T.nU, shF_under _ _, _, _, rfl, rfl, lt_mul hq.u hr'.u, ?_⟩
    exact mk_sh (Int.mul_ne_zero hq.ne hr'.ne) (mul_lt hq.u hr'.u) fun v H' e z => k _ _ (e1.trans e) z
theorem ok_mul (F : Fun Z.K "__mul__" "Share.__mul__" s_Share_dd_mul f fd) (T : ShT Z C) (c1 : CNum Z C) (c2 : CShare Z C) : Z.ok CX0 5 f fd ["self", "other"] (spBin C 4000 gMul) := by
  refine F.ok sc_Share_dd_mul (fun vs H Q E h => ?_) (fun cdv A outer s H vs Q E hr h => ?_)
  · obtain ⟨x, y, q, r, rfl, _⟩ := h
    rfl
  · obtain ⟨x, y, q, r, rfl, hx, hy, hq, hr', k⟩ := h
    refine ⟨_, pss_cons (ps_set (i := 1) sc_Share_dd_mul.nd rfl (Or.inl rfl) (pe_cal c1 hr (by rfl) pass0 (pa_cons (pv 1) pa_nil)))
      (pss_one (ps_ret (pe_calC c2 (hr.mono (by decide)) (by rfl) pass0 (pa_cons (pe_op op_mulW (pe_fld (pv 0) rfl) (pe_fld (pv 1) rfl)) (pa_cons (pe_op op_mulW (pe_fld (pv 0) rfl) (pe_fld (pv 1) rfl)) pa_nil))))), ?_⟩
    refine ⟨_, rfl, _, r, rfl, hy, fun y' H1 e1 hy' => ?_⟩
    obtain ⟨a, dx, rfl, ha⟩ := hx.mono e1
    obtain ⟨b, dy, rfl, hb⟩ := id hy'
    refine ⟨_, rfl, a, C, dx, _, _, rfl, ha, T.cl, T.nT, shF_top _ _, _, rfl, b, C, dy, _, _, rfl, hb, T.cl, T.nT, shF_top _ _, _, _, rfl, rfl, lt_mul hq.t hr'.t, ?_⟩
    refine ⟨_, rfl, a, C, dx, _, _, rfl, ha, T.cl, T.nU, shF_under _ _, _, rfl, b, C, dy, _, _, rfl, hb, T.cl, T.nU, shF_under _ _, _, _, rfl, rfl, lt_mul hq.u hr'.u, ?_⟩
    exact mk_sh (Int.mul_ne_zero hq.ne hr'.ne) (mul_lt hq.u hr'.u) fun v H' e z => k _ _ (e1.trans e) z

def gSub (q r : Int × Int) : Int × Int := gAdd q (gNeg r)
def gBy (q r : Int × Int) : Int × Int := low (q.1 * r.2) (q.2 * r.1)
theorem Sz.neg {n : Nat} {q : Int × Int} (h : Sz n q) : Sz n (gNeg q) := by
  refine ⟨Int.ne_of_gt (low_pos h.ne), Nat.lt_of_le_of_lt (low_le1 h.ne) ?_, Nat.lt_of_le_of_lt (low_le2 h.ne) h.u⟩
  rw [Int.natAbs_neg]
  exact h.t
theorem Sz.up {m n : Nat} {q : Int × Int} (h : Sz m q) (hm : m ≤ n) : Sz n q := ⟨h.ne, lt_up h.t hm, lt_up h.u hm⟩
abbrev CAdd (Z : Cz) (C : Addr) : Prop := CalS Z CX0 5 C "__add__" ["self", "other"] (spBin C 4000 gAdd)
abbrev CMul (Z : Cz) (C : Addr) : Prop := CalS Z CX0 5 C "__mul__" ["self", "other"] (spBin C 4000 gMul)
abbrev CNeg (Z : Cz) (C : Addr) : Prop := CalS Z CX0 4 C "__neg__" ["self"] (spUn C 9000 gNeg)
theorem ok_radd (F : Fun Z.K "__radd__" "Share.__radd__" s_Share_dd_radd f fd) (T : ShT Z C) (c1 : CAdd Z C) (N : NumF Z.K C "add") : Z.ok CX0 6 f fd ["self", "other"] (spBin C 4000 gAdd) := by
  refine F.ok sc_Share_dd_radd (fun vs H Q E h => ?_) (fun cdv A outer s H vs Q E hr h => ?_)
  · obtain ⟨x, y, q, r, rfl, _⟩ := h
    rfl
  · obtain ⟨x, y, q, r, rfl, hx, hy, hq, hr', k⟩ := h
    refine ⟨_, pss_one (ps_ret (pe_op (op_num (op := .Add) c1 N hr pass0) (pv 0) (pv 1))), ?_⟩
    exact ⟨_, rfl, _, rfl, hx.ins, hy.num, _, _, _, _, rfl, hx, hy, hq, hr', k⟩
theorem ok_rmul (F : Fun Z.K "__rmul__" "Share.__rmul__" s_Share_dd_rmul f fd) (T : ShT Z C) (c1 : CMul Z C) (N : NumF Z.K C "mul") : Z.ok CX0 6 f fd ["self", "other"] (spBin C 4000 gMul) := by
  refine F.ok sc_Share_dd_rmul (fun vs H Q E h => ?_) (fun cdv A outer s H vs Q E hr h => ?_)
  · obtain ⟨x, y, q, r, rfl, _⟩ := h
    rfl
  · obtain ⟨x, y, q, r, rfl, hx, hy, hq, hr', k⟩ := h
    refine ⟨_, pss_one (ps_ret (pe_op (op_num (op := .Mult) c1 N hr pass0) (pv 0) (pv 1))), ?_⟩
    exact ⟨_, rfl, _, rfl, hx.ins, hy.num, _, _, _, _, rfl, hx, hy, hq, hr', k⟩
theorem ok_sub (F : Fun Z.K "__sub__" "Share.__sub__" s_Share_dd_sub f fd) (T : ShT Z C) (c1 : CAdd Z C) (c2 : CNum Z C) (c3 : CNeg Z C) (N : NumF Z.K C "add") : Z.ok CX0 6 f fd ["self", "other"] (spBin C 4000 gSub) := by
  refine F.ok sc_Share_dd_sub (fun vs H Q E h => ?_) (fun cdv A outer s H vs Q E hr h => ?_)
  · obtain ⟨x, y, q, r, rfl, _⟩ := h
    rfl
  · obtain ⟨x, y, q, r, rfl, hx, hy, hq, hr', k⟩ := h
    refine ⟨_, pss_one (ps_ret (pe_op (op_num (op := .Add) c1 N hr pass0) (pv 0) (pe_un (un_cal c3 (hr.mono (by decide)) pass0) (pe_cal c2 (hr.mono (by decide)) (by rfl) pass0 (pa_cons (pv 1) pa_nil))))), ?_⟩
    refine ⟨_, rfl, _, rfl, _, r, rfl, hy, fun y' H1 e1 hy' => ⟨hy'.ins, _, _, rfl, hy', hr'.up (by decide), fun y2 H2 e2 hy2 => ?_⟩⟩
    exact ⟨((hx.mono e1).mono e2).ins, .inl hy2.ins, _, _, _, _, rfl, (hx.mono e1).mono e2, .inl hy2, hq, hr'.neg, fun v H' e z => k _ _ ((e1.trans e2).trans e) z⟩
theorem ok_rsub (F : Fun Z.K "__rsub__" "Share.__rsub__" s_Share_dd_rsub f fd) (T : ShT Z C) (c1 : CAdd Z C) (c2 : CNum Z C) (c3 : CNeg Z C) (N : NumF Z.K C "add") : Z.ok CX0 6 f fd ["self", "other"] (spBin C 4000 fun q r => gSub r q) := by
  refine F.ok sc_Share_dd_rsub (fun vs H Q E h => ?_) (fun cdv A outer s H vs Q E hr h => ?_)
  · obtain ⟨x, y, q, r, rfl, _⟩ := h
    rfl
  · obtain ⟨x, y, q, r, rfl, hx, hy, hq, hr', k⟩ := h
    refine ⟨_, pss_one (ps_ret (pe_op (op_num (op := .Add) c1 N hr pass0) (pe_cal c2 (hr.mono (by decide)) (by rfl) pass0 (pa_cons (pv 1) pa_nil)) (pe_un (un_cal c3 (hr.mono (by decide)) pass0) (pv 0)))), ?_⟩
    refine ⟨_, rfl, _, r, rfl, hy, fun y' H1 e1 hy' => ⟨_, rfl, (hx.mono e1).ins, _, _, rfl, hx.mono e1, hq.up (by decide), fun x2 H2 e2 hx2 => ?_⟩⟩
    exact ⟨(hy'.mono e2).ins, .inl hx2.ins, _, _, _, _, rfl, hy'.mono e2, .inl hx2, hr', hq.neg, fun v H' e z => k _ _ ((e1.trans e2).trans e) z⟩
/-- by: the other is not 0 -/
def spBy (C : Addr) : Sp := fun vs H Q _ => ∃ x y q r, vs = [x, y] ∧ Sh C H x q ∧ Nb C H y r ∧ Sz 4000 q ∧ Sz 4000 r ∧ r.1 ≠ 0 ∧ ∀ v H', Same H H' → Sh C H' v (gBy q r) → Q v H'
/-- a field, or what is reckoned of a share -/
def spGet (C : Addr) (n : Nat) (g : Int × Int → V) : Sp := fun vs H Q _ => ∃ x q, vs = [x] ∧ Sh C H x q ∧ Sz n q ∧ Q (g q) H
theorem ok_top (F : Fun Z.K "top" "Share.top" s_Share_top f fd) (T : ShT Z C) : Z.ok CX0 1 f fd ["self"] (spGet C 9000 fun q => .int q.1) := by
  refine F.ok sc_Share_top (fun vs H Q E h => ?_) (fun cdv A outer s H vs Q E hr h => ?_)
  · obtain ⟨x, q, rfl, _⟩ := h
    rfl
  · obtain ⟨x, q, rfl, ⟨a, dx, rfl, ha⟩, hq, k⟩ := h
    exact ⟨_, pss_one (ps_ret (pe_fld (pv 0) rfl)), _, rfl, a, C, dx, _, _, rfl, ha, T.cl, T.nT, shF_top _ _, k⟩
theorem ok_under (F : Fun Z.K "under" "Share.under" s_Share_under f fd) (T : ShT Z C) : Z.ok CX0 1 f fd ["self"] (spGet C 9000 fun q => .int q.2) := by
  refine F.ok sc_Share_under (fun vs H Q E h => ?_) (fun cdv A outer s H vs Q E hr h => ?_)
  · obtain ⟨x, q, rfl, _⟩ := h
    rfl
  · obtain ⟨x, q, rfl, ⟨a, dx, rfl, ha⟩, hq, k⟩ := h
    exact ⟨_, pss_one (ps_ret (pe_fld (pv 0) rfl)), _, rfl, a, C, dx, _, _, rfl, ha, T.cl, T.nU, shF_under _ _, k⟩
end
end Ps

/-! The law's own draws: numbers within bounds. -/
namespace Ps
open PySem PySem.Spec PyProof.Rows PySem.W L2

/-- built-in names that the law uses -/
structure DrT (Z : Cz) : Prop where
  int : Z.mg "int" = none
  len : Z.mg "len" = none
  range : Z.mg "range" = none
  max : Z.mg "max" = none
  min : Z.mg "min" = none
def Below (ms ns : List Int) : Prop := ms.length = ns.length ∧ ∀ (i : Nat) (m n : Int), ms[i]? = some m → ns[i]? = some n → 0 ≤ m ∧ m < n
theorem Below.nil : Below [] [] := ⟨rfl, fun i m n h _ => by simp at h⟩
theorem Below.snoc {ms ns : List Int} {m n : Int} (h : Below ms ns) (h0 : 0 ≤ m) (h1 : m < n) : Below (ms ++ [m]) (ns ++ [n]) := by
  refine ⟨by rw [List.length_append, List.length_append, h.1]; rfl, fun i a b ha hb => ?_⟩
  by_cases hi : i < ms.length
  · rw [List.getElem?_append_left hi] at ha
    rw [List.getElem?_append_left (by rw [← h.1]; exact hi)] at hb
    exact h.2 i a b ha hb
  · rw [List.getElem?_append_right (by omega)] at ha
    rw [List.getElem?_append_right (by rw [← h.1]; omega)] at hb
    rw [← h.1] at hb
    cases e : i - ms.length with
    | zero =>
      rw [e] at ha hb
      simp at ha hb
      subst ha; subst hb
      exact ⟨h0, h1⟩
    | succ j =>
      rw [e] at ha
      simp at ha
theorem take_snoc {ns : List Int} {i : Nat} {n : Int} (h : ns[i]? = some n) : ns.take (i + 1) = ns.take i ++ [n] := by
  rw [List.take_succ, h]
  rfl
/-- sizes that may be drawn by -/
structure Sizes (ns : List Int) : Prop where
  len : ns.length ≤ 10000
  pos : ∀ n ∈ ns, 0 < n ∧ n < 1073741824
def spNumbers (K : Frag) : Sp := fun vs H Q _ => ∃ (c s : Int) (a : Addr) (ns : List Int), vs = [.int c, .int s, .ref a] ∧ SqL K H a (ns.map V.int) ∧ Sizes ns ∧ 0 ≤ s ∧ s ≤ 1000 ∧
  ∀ p H' ms, Same H H' → H p = none → H' p = some (.lst (ms.map V.int)) → Below ms ns → Q (.ref p) H'
theorem small1000' {n : Nat} (h : n ≤ 100000) : n < sizeLine := Nat.lt_of_le_of_lt h (by decide)
theorem pow_ok {i j : Int} (h0 : 0 ≤ j) (h1 : j ≤ 1000000) (h2 : i.natAbs < 2 ^ 64) : L2.CPow i j := ⟨h0, h1, h2⟩
section
variable {Z : Cz} {f : Addr} {fd : FuncData}
theorem ok_numbers (F : Fun Z.K "_law_numbers" "_law_numbers" s_lw_numbers f fd) (T : DrT Z) : Z.ok CX0 1 f fd ["_law_cell", "_law_salt", "_law_sizes"] (spNumbers Z.K) := by
  refine F.ok sc_lw_numbers (fun vs H Q E h => ?_) (fun cdv A outer s H vs Q E hr h => ?_)
  · obtain ⟨c, s, a, ns, rfl, _⟩ := h
    rfl
  · obtain ⟨c, sa, a, ns, rfl, hS, hz, hs0, hs1, k⟩ := h
    have nd := sc_lw_numbers.nd
    refine ⟨_, (pss_cons (ps_set (i := 3) sc_lw_numbers.nd rfl (Or.inl rfl) (pe_callB (call_max2 rfl) (by rfl) T.max (by decide +kernel) (pa_cons (pe_int1 (by rfl) T.int (pv 0)) (pa_cons (pe_int1 (by rfl) T.int (pe_op op_sub (pe_un un_neg pe_int) (pv 0))) pa_nil))))
      (pss_cons (ps_set (i := 4) sc_lw_numbers.nd rfl (Or.inl rfl) (pv 3))
      (pss_cons (ps_set (i := 5) sc_lw_numbers.nd rfl (Or.inl rfl) (pe_lst pa_nil))
      (pss_cons (ps_for PassesOwn.never rfl (pi_range1 (by rfl) T.range (pa_cons (pe_callB call_len_seq (by rfl) T.len PySem.boot_len (pa_cons (pv 2) pa_nil)) pa_nil)) (pg_name (i := 6) sc_lw_numbers.nd rfl (Or.inl rfl))
      (pss_one (ps_if (PW.pt (pw_and (pt_cmpR op_ge (pv 3) (pe_op op_pow pe_int pe_int) (nomark _)) (pw_and1 (pt_cmpR op_gt (pv 4) pe_int (nomark _)))))
        (pss_cons (ps_expr (pe_bm PySem.F.plainAttrs_list PySem.F.slot_list_append PySem.F.type_list_append mt_append (pv 5) (pa_cons (pe_op op_mod (pe_int1 (by rfl) T.int (pv 4)) (pe_ix ix_list (pv 2) (pv 6) (fun _ _ => rfl))) pa_nil)))
          (pss_one (ps_set (i := 4) sc_lw_numbers.nd rfl (Or.inl rfl) (pe_op op_fdiv (pv 4) (pe_ix ix_list (pv 2) (pv 6) (fun _ _ => rfl))))))
        (pss_cons (ps_set (i := 7) sc_lw_numbers.nd rfl (Or.inl rfl) (pe_op op_pow (pe_op op_add (pe_op op_add (pe_op op_mod (pe_int1 (by rfl) T.int (pv 3)) pe_int) (pe_op op_mul pe_int (pv 1))) pe_int) pe_int))
          (pss_cons (ps_set (i := 7) sc_lw_numbers.nd rfl (Or.inl rfl) (pe_op op_mul (pe_op op_add (pe_op op_mod (pe_int1 (by rfl) T.int (pv 7)) pe_int) (pe_op op_mul pe_int (pe_op op_add (pv 6) pe_int))) (pe_op op_add (pv 6) pe_int)))
          (pss_cons (ps_set (i := 7) sc_lw_numbers.nd rfl (Or.inl rfl) (pe_op op_mod (pe_int1 (by rfl) T.int (pv 7)) pe_int))
          (pss_cons (ps_set (i := 7) sc_lw_numbers.nd rfl (Or.inl rfl) (pe_op op_mul (pe_op op_mod (pe_int1 (by rfl) T.int (pe_op op_pow (pv 7) pe_int)) pe_int) pe_int))
          (pss_cons (ps_set (i := 7) sc_lw_numbers.nd rfl (Or.inl rfl) (pe_op op_mod (pe_int1 (by rfl) T.int (pv 7)) pe_int))
          (pss_one (ps_expr (pe_bm PySem.F.plainAttrs_list PySem.F.slot_list_append PySem.F.type_list_append mt_append (pv 5) (pa_cons (pe_op op_mod (pe_int1 (by rfl) T.int (pe_op op_fdiv (pv 7) pe_int)) (pe_ix ix_list (pv 2) (pv 6) (fun _ _ => rfl))) pa_nil))))))))))))
      (pss_one (ps_ret (pv 5))))))), ?_⟩
    refine ⟨_, rfl, _, rfl, _, rfl, _, rfl, _, _, rfl, rfl, _, rfl, _, _, rfl, ?_⟩
    generalize (if (-1 - c : Int) > c then (-1 - c : Int) else c) = wh
    refine ⟨_, rfl, ?_⟩
    refine ⟨by decide, fun p hp => ?_⟩
    have e0 : Same H (upd H p (.lst [])) := fun b o e => by rw [upd_ne (ne_of_none e hp)]; exact e
    have hln : (ns.map V.int).length = ns.length := List.length_map ..
    have hl := hz.len
    refine ⟨_, rfl, a, _, rfl, .inl (e0.seq hS), _, rfl, by omega, by omega, for_range (lo := 0) (fun i σ H1 => ∃ (l : Int) (ms : List Int) (o k : Option V), σ = [some (.int c), some (.int sa), some (.ref a), some (.int wh), some (.int l), some (.ref p), k, o] ∧ Same H H1 ∧ H1 p = some (.lst (ms.map V.int)) ∧ Below ms (ns.take i))
      ⟨wh, [], none, none, rfl, e0, upd_same, Below.nil⟩ ?_ ?_⟩
    · rintro i σ H1 hi ⟨l, ms, o, k', rfl, e1, h1, hb⟩
      have hi' : i < ns.length := by omega
      obtain ⟨n, hn⟩ : ∃ n, ns[i]? = some n := ⟨ns[i], List.getElem?_eq_getElem hi'⟩
      have hnp := hz.pos n (List.mem_of_getElem? hn)
      have hat : atI (ns.map V.int) (0 + (i : Int)) = some (.int n) := by
        rw [Int.zero_add]
        exact atI_nat (by rw [List.getElem?_map, hn]; rfl)
      have hml : ms.length ≤ 10000 := by
        rw [hb.1, List.length_take]; omega
      have fin : ∀ (m l' : Int) (o' k2 : Option V), 0 ≤ m → m < n → ∃ (l : Int) (ms' : List Int) (o k : Option V), [some (V.int c), some (.int sa), some (.ref a), some (.int wh), some (.int l'), some (.ref p), k2, o'] = [some (.int c), some (.int sa), some (.ref a), some (.int wh), some (.int l), some (.ref p), k, o] ∧
          Same H (upd H1 p (.lst (ms.map V.int ++ [.int m]))) ∧ (upd H1 p (.lst (ms.map V.int ++ [.int m]))) p = some (.lst (ms'.map V.int)) ∧ Below ms' (ns.take (i + 1)) := by
        intro m l' o' k2 h0 h2
        refine ⟨l', ms ++ [m], o', k2, rfl, fun b o e => ?_, ?_, ?_⟩
        · rw [upd_ne (ne_of_none e hp)]
          exact e1 b o e
        · rw [upd_same, List.map_append]
          rfl
        · rw [take_snoc hn]
          exact hb.snoc h0 h2
      have hml' : (ms.map V.int).length < sizeLine := by rw [List.length_map]; exact small1000' (by omega)
      have hS1 := e1.seq hS
      have hm2 : ∀ z : Int, 0 ≤ z % n ∧ z % n < n := fun z => ⟨Int.emod_nonneg _ (by omega), Int.emod_lt_of_pos _ hnp.1⟩
      refine ⟨_, rfl, _, _, rfl, rfl, pow_ok (by decide) (by decide) (by decide), _, _, rfl, rfl, _, rfl, iteD (fun _ => ?_) (fun _ => ?_)⟩
      · refine ⟨_, rfl, _, _, rfl, rfl, _, rfl, iteD (fun _ => ?_) (fun _ => ?_)⟩
        · refine ⟨_, rfl, .inl ⟨rfl, _, SqL.of h1⟩, _, rfl, _, rfl, _, rfl, _, rfl, a, _, _, _, rfl, rfl, hS1, hat, _, _, rfl, rfl, hnp.1, p, _, _, rfl, rfl, h1, hml', ?_⟩
          have hS2 : SqL Z.K (upd H1 p (.lst (ms.map V.int ++ [.int (l % n)]))) a (ns.map V.int) := by
            obtain ⟨_, _, _, _, _, e2, _, _⟩ := fin (l % n) l o none (hm2 l).1 (hm2 l).2
            exact e2.seq hS
          refine ⟨_, rfl, _, rfl, _, rfl, a, _, _, _, rfl, rfl, hS2, hat, _, _, rfl, rfl, ⟨hnp.1, hnp.2⟩, ?_⟩
          exact fin _ _ _ _ (hm2 l).1 (hm2 l).2
        · refine ⟨_, rfl, _, rfl, _, _, rfl, rfl, (by show (0 : Int) < 2147483629; decide), _, rfl, _, _, rfl, rfl, .inl ⟨by decide, by decide⟩, _, _, rfl, rfl, _, _, rfl, rfl, _, _, rfl, rfl, pow_ok (by decide) (by decide) (by omega), ?_⟩
          refine ⟨_, rfl, _, rfl, _, _, rfl, rfl, (by show (0 : Int) < 2147483647; decide), _, rfl, _, _, rfl, rfl, _, _, rfl, rfl, .inl ⟨by decide, by decide⟩, _, _, rfl, rfl, _, rfl, _, _, rfl, rfl, _, _, rfl, rfl, .inr ⟨by omega, by omega⟩, ?_⟩
          refine ⟨_, rfl, _, rfl, _, _, rfl, rfl, (by show (0 : Int) < 2147483629; decide), ?_⟩
          refine ⟨_, rfl, _, _, rfl, rfl, pow_ok (by decide) (by decide) (by omega), _, rfl, _, _, rfl, rfl, (by show (0 : Int) < 2147483647; decide), _, _, rfl, rfl, .inr ⟨by decide, by decide⟩, ?_⟩
          refine ⟨_, rfl, _, rfl, _, _, rfl, rfl, (by show (0 : Int) < 2147483629; decide), ?_⟩
          refine ⟨_, rfl, .inl ⟨rfl, _, SqL.of h1⟩, _, rfl, _, _, rfl, rfl, ⟨by decide, by decide⟩, _, rfl, _, rfl, _, rfl, a, _, _, _, rfl, rfl, hS1, hat, _, _, rfl, rfl, hnp.1, p, _, _, rfl, rfl, h1, hml', ?_⟩
          exact fin _ _ _ _ (hm2 _).1 (hm2 _).2
      · refine ⟨_, rfl, _, rfl, _, _, rfl, rfl, (by show (0 : Int) < 2147483629; decide), _, rfl, _, _, rfl, rfl, .inl ⟨by decide, by decide⟩, _, _, rfl, rfl, _, _, rfl, rfl, _, _, rfl, rfl, pow_ok (by decide) (by decide) (by omega), ?_⟩
        refine ⟨_, rfl, _, rfl, _, _, rfl, rfl, (by show (0 : Int) < 2147483647; decide), _, rfl, _, _, rfl, rfl, _, _, rfl, rfl, .inl ⟨by decide, by decide⟩, _, _, rfl, rfl, _, rfl, _, _, rfl, rfl, _, _, rfl, rfl, .inr ⟨by omega, by omega⟩, ?_⟩
        refine ⟨_, rfl, _, rfl, _, _, rfl, rfl, (by show (0 : Int) < 2147483629; decide), ?_⟩
        refine ⟨_, rfl, _, _, rfl, rfl, pow_ok (by decide) (by decide) (by omega), _, rfl, _, _, rfl, rfl, (by show (0 : Int) < 2147483647; decide), _, _, rfl, rfl, .inr ⟨by decide, by decide⟩, ?_⟩
        refine ⟨_, rfl, _, rfl, _, _, rfl, rfl, (by show (0 : Int) < 2147483629; decide), ?_⟩
        refine ⟨_, rfl, .inl ⟨rfl, _, SqL.of h1⟩, _, rfl, _, _, rfl, rfl, ⟨by decide, by decide⟩, _, rfl, _, rfl, _, rfl, a, _, _, _, rfl, rfl, hS1, hat, _, _, rfl, rfl, hnp.1, p, _, _, rfl, rfl, h1, hml', ?_⟩
        exact fin _ _ _ _ (hm2 _).1 (hm2 _).2
    · rintro σ H1 ⟨l, ms, o, k', rfl, e1, h1, hb⟩
      refine ⟨_, rfl, k p H1 ms e1 hp h1 ?_⟩
      rw [hln, Int.toNat_natCast, List.take_length] at hb
      exact hb
/-- a pool at p: its numbers at q, the place of the next one -/
structure Pool (H : Hp) (p q : Addr) (ms : List Int) (i : Nat) : Prop where
  at_ : H p = some (.lst [.ref q, .int i])
  nums : H q = some (.lst (ms.map V.int))
  len : ms.length ≤ 10000
  few : i ≤ 100000
theorem Pool.ne {H : Hp} {p q : Addr} {ms : List Int} {i : Nat} (h : Pool H p q ms i) : p ≠ q := ne_of h.at_ h.nums (by
  intro z
  have z := HO.lst.inj z
  cases ms with
  | nil => cases z
  | cons m r =>
    rw [List.map_cons] at z
    cases (List.cons.inj z).1)
theorem rep420 (k : Nat) : (List.replicate k [V.int 420]).flatten = (List.replicate k (420 : Int)).map V.int := by
  induction k with
  | zero => rfl
  | succ k ih => rw [List.replicate_succ, List.flatten_cons, ih, List.replicate_succ]; rfl
def spPool : Sp := fun vs H Q _ => ∃ (c s n : Int), vs = [.int c, .int s, .int n] ∧ 0 ≤ s ∧ s ≤ 1000 ∧ 0 ≤ n ∧ n ≤ 10000 ∧
  ∀ p q H' ms, Same H H' → H p = none → H q = none → Pool H' p q ms 0 → Q (.ref p) H'
theorem ok_pool (F : Fun Z.K "_law_pool" "_law_pool" s_lw_pool f fd) (T : DrT Z) (c_lw_numbers : Cal Z CX0 1 "_law_numbers" ["_law_cell", "_law_salt", "_law_sizes"] [] (spNumbers Z.K)) : Z.ok CX0 2 f fd ["_law_cell", "_law_salt", "_law_many"] spPool := by
  refine F.ok sc_lw_pool (fun vs H Q E h => ?_) (fun cdv A outer s H vs Q E hr h => ?_)
  · obtain ⟨c, s, n, rfl, _⟩ := h
    rfl
  · obtain ⟨c, sa, n, rfl, hs0, hs1, hn0, hn1, k⟩ := h
    refine ⟨_, (pss_one (ps_ret (pe_lst (pa_cons (pe_cal c_lw_numbers (hr.mono (by decide)) (by rfl) pass0 (pa_cons (pv 0) (pa_cons (pv 1) (pa_cons (pe_op op_rep (pe_lst (pa_cons pe_int pa_nil)) (pv 2)) pa_nil)))) (pa_cons pe_int pa_nil))))), ?_⟩
    refine ⟨_, rfl, _, rfl, by decide, fun l hl => ?_⟩
    refine ⟨_, rfl, l, n, _, rfl, rfl, upd_same, by omega, by omega, ?_, fun l2 hl2 => ?_⟩
    · show 1 * n.toNat ≤ sizeLine
      rw [Nat.one_mul]
      exact Nat.le_of_lt (small1000' (by omega))
    have e1 : Same H (upd (upd H l (.lst [.int 420])) l2 (.lst (List.replicate n.toNat [V.int 420]).flatten)) := fun b o e => by
      have := e
      rw [upd_ne, upd_ne (ne_of_none e hl)]
      · exact e
      · intro z
        subst z
        rw [upd_ne (ne_of_none e hl), e] at hl2
        cases hl2
    refine ⟨c, sa, l2, List.replicate n.toNat 420, rfl, SqL.of (by rw [upd_same, rep420]), ⟨?_, ?_⟩, hs0, hs1, fun q H2 ms e2 hq h2 hb => ?_⟩
    · rw [List.length_replicate]; omega
    · intro x hx
      rw [(List.mem_replicate.mp hx).2]
      decide
    have e3 := e1.trans e2
    refine ⟨Nat.le_of_lt (small1000' (show 2 ≤ 100000 by decide)), fun p hp => ?_⟩
    have hqn : H q = none := e1.free hq
    have hne : q ≠ p := ne_of_none h2 hp
    refine k p q _ ms (fun b o e => ?_) (e3.free hp) hqn ⟨upd_same, by rw [upd_ne hne]; exact h2, ?_, by decide⟩
    · rw [upd_ne (ne_of_none (e3 b o e) hp)]
      exact e3 b o e
    · rw [hb.1, List.length_replicate]; omega
/-- a draw -/
def spDraw : Sp := fun vs H Q _ => ∃ (p q : Addr) (ms : List Int) (i : Nat) (n : Int), vs = [.ref p, .int n] ∧ Pool H p q ms i ∧ 0 < n ∧ i < 100000 ∧
  ∀ r H', 0 ≤ r → r < n → (∀ b, b ≠ p → H' b = H b) → Pool H' p q ms (i + 1) → Q (.int r) H'
theorem ok_draw (F : Fun Z.K "_law_draw" "_law_draw" s_lw_draw f fd) (T : DrT Z) : Z.ok CX0 1 f fd ["_law_pool_here", "_law_many"] spDraw := by
  refine F.ok sc_lw_draw (fun vs H Q E h => ?_) (fun cdv A outer s H vs Q E hr h => ?_)
  · obtain ⟨p, q, ms, i, n, rfl, _⟩ := h
    rfl
  · obtain ⟨p, q, ms, i, n, rfl, hP, hn, hi, k⟩ := h
    refine ⟨_, (pss_cons (ps_set (i := 2) sc_lw_draw.nd rfl (Or.inl rfl) (pe_ix ix_list (pv 0) pe_int (fun _ _ => rfl)))
      (pss_cons (ps_asg (pe_op op_add (pv 2) pe_int) (pg_sub (pv 0) pe_int set_list))
      (pss_one (ps_ret (pe_ifExp (pt_cmpR op_lt (pv 2) (pe_callB call_len_seq (by rfl) T.len PySem.boot_len (pa_cons (pe_ix ix_list (pv 0) pe_int (fun _ _ => rfl)) pa_nil)) (nomark _)) (pe_op op_mod (pe_int1 (by rfl) T.int (pe_ix ix_list (pe_ix ix_list (pv 0) pe_int (fun _ _ => rfl)) (pv 2) (fun _ _ => rfl))) (pv 1)) pe_int))))), ?_⟩
    refine ⟨_, rfl, p, _, _, _, rfl, rfl, SqL.of hP.at_, rfl, ?_⟩
    refine ⟨_, rfl, _, _, rfl, rfl, _, rfl, p, _, _, 1, rfl, rfl, hP.at_, rfl, ?_⟩
    have hP2 : Pool (upd H p (.lst [.ref q, .int ((i : Int) + 1)])) p q ms (i + 1) := ⟨by rw [upd_same, show ((i + 1 : Nat) : Int) = (i : Int) + 1 by omega], by rw [upd_ne hP.ne.symm]; exact hP.nums, hP.len, hi⟩
    have hsame : ∀ b, b ≠ p → (upd H p (.lst [.ref q, .int ((i : Int) + 1)])) b = H b := fun b hb => upd_ne hb
    refine ⟨_, rfl, _, rfl, p, _, _, _, rfl, rfl, SqL.of upd_same, rfl, q, _, rfl, .inl (SqL.of hP2.nums), _, _, rfl, rfl, _, rfl, iteD (fun hlt => ?_) (fun hge => ?_)⟩
    · rw [List.length_map] at hlt
      have hlt' : i < ms.length := by omega
      refine ⟨_, rfl, p, _, _, _, rfl, rfl, SqL.of upd_same, rfl, _, rfl, q, _, _, V.int ms[i], rfl, rfl, SqL.of hP2.nums, ?_, _, rfl, _, rfl, _, _, rfl, rfl, hn, ?_⟩
      · exact atI_nat (by rw [List.getElem?_map, List.getElem?_eq_getElem hlt']; rfl)
      · exact k _ _ (Int.emod_nonneg _ (by omega)) (Int.emod_lt_of_pos _ hn) hsame hP2
    · exact k 0 _ (Int.le_refl 0) hn hsame hP2
/-- the pool of the script's k-th cell -/
def spOpened (K : Frag) : Sp := fun vs H Q _ => ∃ (a : Addr) (ns : List Int) (i : Nat) (n : Int), vs = [.ref a, .int i, .int n] ∧ SqL K H a (ns.map V.int) ∧ (i < ns.length ∨ (ns = [] ∧ i = 0)) ∧ i ≤ 1000 ∧ 0 ≤ n ∧ n ≤ 10000 ∧
  ∀ p q H' ms, Same H H' → H p = none → H q = none → Pool H' p q ms 0 → Q (.ref p) H'
theorem DpAll.ints {K : Frag} {H : Hp} : ∀ ns : List Int, DpAll K H (ns.map V.int) (ns.map PyData.int)
  | [] => .nil
  | n :: r => .cons (.int n) (DpAll.ints r)
theorem shaped_ints (ns : List Int) : SeqAt.shaped (.list (ns.map PyData.int)) = true := ke_shaped_ints ns
theorem ok_opened (F : Fun Z.K "_law_opened" "_law_opened" s_lw_opened f fd) (T : DrT Z) (c_lw_pool : Cal Z CX0 2 "_law_pool" ["_law_cell", "_law_salt", "_law_many"] [] spPool) : Z.ok CX0 3 f fd ["_law_script", "_law_k", "_law_many"] (spOpened Z.K) := by
  refine F.ok sc_lw_opened (fun vs H Q E h => ?_) (fun cdv A outer s H vs Q E hr h => ?_)
  · obtain ⟨a, ns, i, n, rfl, _⟩ := h
    rfl
  · obtain ⟨a, ns, i, n, rfl, hS, hi, hi2, hn0, hn1, k⟩ := h
    refine ⟨_, (pss_cons (ps_set (i := 3) sc_lw_opened.nd rfl (Or.inl rfl) (pe_ifExp (pt_cmpR (op_neD hr.units) (pv 0) (pe_lst pa_nil) (nomark _)) (pe_ix ix_list (pv 0) (pv 1) (fun _ _ => rfl)) pe_int))
      (pss_one (ps_ret (pe_cal c_lw_pool (hr.mono (by decide)) (by rfl) pass0 (pa_cons (pv 3) (pa_cons (pv 1) (pa_cons (pv 2) pa_nil))))))), ?_⟩
    refine ⟨_, rfl, by decide, fun l hl => ?_⟩
    have e1 : Same H (upd H l (.lst [])) := fun b o e => by rw [upd_ne (ne_of_none e hl)]; exact e
    refine ⟨_, _, .lst (e1.seq hS) (DpAll.ints ns), .lst (SqL.of upd_same) .nil, shaped_ints ns, rfl, _, rfl, ?_⟩
    have fin : ∀ c : Int, spPool [.int c, .int i, .int n] (upd H l (.lst [])) Q E0 := fun c =>
      ⟨c, i, n, rfl, by omega, by omega, hn0, hn1, fun p q H' ms e hp hq P => k p q H' ms (e1.trans e) (e1.free hp) (e1.free hq) P⟩
    cases ns with
    | nil =>
      refine iteF ?_
      exact ⟨_, rfl, _, rfl, _, rfl, fin 7⟩
    | cons x r =>
      refine iteT ?_
      have hlt : i < (x :: r).length := by
        rcases hi with h | h
        · exact h
        · cases h.1
      refine ⟨_, rfl, _, rfl, a, _, _, V.int (x :: r)[i], rfl, rfl, e1.seq hS, atI_nat (by rw [List.getElem?_map, List.getElem?_eq_getElem hlt]; rfl), _, rfl, _, rfl, _, rfl, fin _⟩
end
end Ps

/-! Own comparisons: an own instance on the left, anything on the right; an int on the left, an own instance on the right; != by ==; x op= y without an own in-place method. -/
namespace Ps
open PySem PySem.Spec PyProof.Rows PySem.W L2

section
variable {prog : Program} {w : World} {A : Around} {E : Value → Shared → Prop} {s : Shared} {K : Frag} {x C L f : Addr} {h₀ : Heap} {m : Str → Option Value} {ox : Obj} {od : Option Obj} {b tb : Value}

theorem ifBound_objNe {M : Model} {args : List Value} {Q : Option Value → Shared → Prop} (X : K.In s.heap) (I : InstAt s.heap x ox C od) (hs : findIn K (.ref C) "__ne__" = some (some (.builtin "object.__ne__")))
    (h : wpAny M A (call (.builtin "object.__ne__") (.ref x :: args)) (fun v => Q (some v)) E s) : wpAny M A (callSpecialIfBound? (.ref x) "__ne__" args) Q E s := by
  simp only [callSpecialIfBound?, bindSpecialIfBound?]
  refine wpAny_holding (wpAny_bind (wpAny_bind (wpAny_bind (I.type.here ((looks_findIn X hs).here ?_)))))
  refine wpAny_bind (wpAny_askSetting (wpAny_ite ?_))
  have fin : wpAny M A (call (.builtin "object.__ne__") ([.ref x] ++ args) >>= fun v => pure (some v)) Q E s := wpAny_bind (wpAny_mono h (fun v s' h' => wpAny_pure h') fun _ _ h' => h')
  split
  · exact wpAny_bind (wpAny_of_eq (F.cmp_object.ne.bind _) (wpAny_pure (by exact fin)))
  · exact wpAny_tryCatch (wpAny_bind (wpAny_of_eq (F.cmp_object.ne.bind _) (wpAny_pure (by exact fin))))
theorem objNe_entry {Q : Fin → Shared → Prop} (hu : A.units < cLine) (X : K.In s.heap) (I : InstAt s.heap x ox C od) (hs : findIn K (.ref C) "__eq__" = some (some (.ref f))) (hf : isFn K (.ref f) = true)
    (h : wpAny (model prog w) A (call (.ref f) [.ref x, b]) (fun v s' => ∃ r, v = .bool r ∧ Q (.done (.ret (.bool (!r)))) s') E s) : wpAny (model prog w) A (Builtin.«object.__ne__» ⟨[.ref x, b], []⟩) Q E s := by
  unfold Builtin.«object.__ne__»
  refine wpAny_bind (m := slotArgs "__ne__" 1 _) (wpAny_pure ?_)
  show wpAny _ _ (cRoomFor "comparison" [.ref x, b] >>= _) _ _ _
  refine wpAny_bind (wpAny_cRoomFor hu ?_)
  refine wpAny_bind (m := callSpecialIfBound? (.ref x) (Str.ofString "__eq__") [b]) (ifBound_K X I hs hf (wpAny_mono h (fun v s' hv => ?_) fun _ _ y => y))
  obtain ⟨r, rfl, hq⟩ := hv
  show wpAny _ _ (truthy (.bool r) >>= _) _ _ _
  exact wpAny_bind (wpAny_truthy_bool (wpAny_pure hq))
theorem tryNe {Q : Option Value → Shared → Prop} (hu : A.units + 1 < cLine) (X : K.In s.heap) (I : InstAt s.heap x ox C od) (hne : findIn K (.ref C) "__ne__" = some (some (.builtin "object.__ne__"))) (hm : mroIn K C (.type "object") = some true)
    (hs : findIn K (.ref C) "__eq__" = some (some (.ref f))) (hf : isFn K (.ref f) = true)
    (h : wpAny (model prog w) A.in1 (call (.ref f) [.ref x, b]) (fun v s' => ∃ r, v = .bool r ∧ Q (some (.bool (!r))) s') E s) : wpAny (model prog w) A (tryCompare (.ref x) "__ne__" b) Q E s := by
  unfold tryCompare
  refine wpAny_bind (ifBound_objNe X I hne ?_)
  refine wpAny_call (codeAny_call_builtin F.cmp_object.ne.plain F.cmpEntry_ne (check_slot F.cmpKind_ne F.cmpSplit_ne (I.type.andThen (looks_mroIn X hm)) (F.cmpArgs_ne _ _) ?_))
  refine objNe_entry (A := A.in1) hu X I hs hf (wpAny_mono h (fun v s' hv => ?_) fun _ _ e => e)
  obtain ⟨r, rfl, hq⟩ := hv
  exact ⟨r, rfl, wpAny_pure hq⟩
/-- x != b by the own == -/
theorem cmp_ne {Q : Value → Shared → Prop} (hu : A.units + 1 < cLine) (X : K.In s.heap) (I : InstAt s.heap x ox C od) (hb : Looks (model prog w) s.heap (typeOf b) tb) (hn : notFirst K C tb = true)
    (hne : findIn K (.ref C) "__ne__" = some (some (.builtin "object.__ne__"))) (hm : mroIn K C (.type "object") = some true) (hs : findIn K (.ref C) "__eq__" = some (some (.ref f))) (hf : isFn K (.ref f) = true)
    (h : wpAny (model prog w) A.in1 (call (.ref f) [.ref x, b]) (fun v s' => ∃ r, v = .bool r ∧ Q (.bool (!r)) s') E s) : wpAny (model prog w) A (richCompare .NotEq (.ref x) b) Q E s := by
  have one : wpAny (model prog w) A (tryCompare (.ref x) "__ne__" b) (fun r s' => ∃ v, r = some v ∧ Q v s') E s :=
    tryNe hu X I hne hm hs hf (wpAny_mono h (fun v s' hv => by obtain ⟨r, rfl, hq⟩ := hv; exact ⟨r, rfl, _, rfl, hq⟩) fun _ _ e => e)
  unfold richCompare
  simp only [oneThing_ref]
  rw [cmpInfo_NotEq]
  dsimp only
  refine wpAny_holding (wpAny_bind (wpAny_cRoomFor (Nat.lt_of_succ_lt hu) ?_))
  refine wpAny_bind (I.type.here (wpAny_bind (hb.here ?_)))
  split
  · rename_i q
    have e : subIn K tb (.ref C) = some false := by
      rcases Bool.or_eq_true_iff.mp hn with e | e
      · rw [beq_iff_eq.mp e] at q; simp at q
      · exact beq_iff_eq.mp e
    refine wpAny_bind ((looks_subIn X e).here ?_)
    simp only [Bool.false_eq_true, if_false]
    refine wpAny_bind (wpAny_mono one (fun r s' z => ?_) fun _ _ e => e)
    obtain ⟨v, rfl, hq⟩ := z
    exact wpAny_pure hq
  · refine wpAny_bind (wpAny_pure ?_)
    simp only [Bool.false_eq_true, if_false]
    refine wpAny_bind (wpAny_mono one (fun r s' z => ?_) fun _ _ e => e)
    obtain ⟨v, rfl, hq⟩ := z
    exact wpAny_pure hq
/-- an int on the left: it declines, the reflected method of the right is called -/
theorem cmp_R {op : CmpOp} {t : Tok} {i : Int} {Q : Value → Shared → Prop} (hu : A.units < cLine) (X : K.In s.heap) (I : InstAt s.heap x ox C od) (hsub : subIn K (.ref C) (.type "int") = some false)
    (hone : oneThing? op (.int i t) (.ref x) = none)
    (dec : wpAny (model prog w) A (tryCompare (.int i t) (cmpInfo op).2.1 (.ref x)) (fun r s' => r = none ∧ s' = s) E s)
    (h : wpAny (model prog w) A (tryCompare (.ref x) (cmpInfo op).2.2 (.int i t)) (fun r s' => ∃ v, r = some v ∧ Q v s') E s) : wpAny (model prog w) A (richCompare op (.int i t) (.ref x)) Q E s := by
  unfold richCompare
  rw [hone]
  dsimp only
  refine wpAny_holding (wpAny_bind (wpAny_cRoomFor hu ?_))
  have L1 : Looks (model prog w) s.heap (typeOf (.int i t)) (.type "int") := Looks.of_pure rfl
  refine wpAny_bind (L1.here (wpAny_bind (I.type.here ?_)))
  split
  · refine wpAny_bind ((looks_subIn X hsub).here ?_)
    simp only [Bool.false_eq_true, if_false]
    refine wpAny_bind (wpAny_mono dec (fun r s' z => ?_) fun _ _ e => e)
    obtain ⟨rfl, rfl⟩ := z
    simp only [Bool.not_false, if_true]
    refine wpAny_bind (wpAny_mono h (fun r s' z => ?_) fun _ _ e => e)
    obtain ⟨v, rfl, hq⟩ := z
    exact wpAny_pure hq
  · rename_i q
    exact absurd (by simp) q
end
end Ps

/-! The same over the layer: values of any known type on the right. -/
namespace Ps
open PySem PySem.Spec PyProof.Rows PySem.W L2

section
variable {prog : Program} {w : World} {A : Around} {E : Value → Shared → Prop} {s : Shared} {K : Frag} {x C f : Addr} {ox : Obj} {od : Option Obj} {b : Value} {nm T : String}
/-- a built-in class, as a number's operator looks at it -/
structure Bt (T nm : String) : Prop where
  l : ∃ o, fastLookup T (PySem.dunder nm) = some o
  r : ∃ o, fastLookup T (dunderR nm) = some o
  no : (fastBuiltinMro T).map (fun l => l.all fun v => match v with | .type _ => true | _ => false) = some true
theorem noRef {T : String} {C : Addr} (h : (fastBuiltinMro T).map (fun l => l.all fun v => match v with | .type _ => true | _ => false) = some true) : subIn K (.type T) (.ref C) = some false := by
  show (fastBuiltinMro T).map (·.contains (.ref C)) = some false
  cases e : fastBuiltinMro T with
  | none => rw [e] at h; cases h
  | some l =>
    rw [e] at h
    have h2 : (l.all fun v => match v with | .type _ => true | _ => false) = true := Option.some.inj h
    show some (l.contains (.ref C)) = some false
    congr 1
    rw [Bool.eq_false_iff]
    intro z
    have z2 := List.all_eq_true.mp h2 _ (List.contains_iff_mem.mp z)
    cases z2
theorem bin1_T {Q : Value → Shared → Prop} (X : K.In s.heap) (I : InstAt s.heap x ox C od) (hb : Looks (model prog w) s.heap (typeOf b) (.type T)) (hc : selfFirst K C = true)
    (hs : findIn K (.ref C) (PySem.dunder nm) = some (some (.ref f))) (hf : isFn K (.ref f) = true) {rc : Option Value} (hr : findIn K (.ref C) (dunderR nm) = some rc) (hp : rc = none ∨ ∃ g : Addr, rc = some (.ref g)) (B : Bt T nm)
    (h : wpAny (model prog w) A (call (.ref f) [.ref x, b]) (PySem.W.CmpBack Q) E s) : wpAny (model prog w) A (binaryOp1 nm (.ref x) b) (fun r s' => ∃ v, r = some v ∧ Q v s') E s := by
  obtain ⟨cd, rest, hcd, hm⟩ := ksp_first hc
  have one := ksp_try X I hs hf h
  obtain ⟨⟨fo, h1⟩, ⟨ro, h2⟩, hno⟩ := B
  obtain ⟨hh, g, d, tt, os⟩ := s
  have L1 : Looks (model prog w) hh (typeOf (.ref x)) (.ref C) := I.type
  have L3 : Looks (model prog w) hh (fillsNumberSlot (.ref C) nm) true := fills_K X hcd hm hs
  have L4 : Looks (model prog w) hh (fillsNumberSlot (.type T) nm) ((fo.isSome && !isSeqSlot fo) || (ro.isSome && !isSeqSlot ro)) := ksp_fillsT X h1 h2
  have L5 : Looks (model prog w) hh (isSubtype (.type T) (.ref C)) false := looks_subIn X (noRef hno)
  have L6 : Looks (model prog w) hh (numberSlotInPython (.ref C) nm) true := ksp_inPy X hs hr hp
  have L7 : Looks (model prog w) hh (numberSlotInPython (.type T) nm) false := Looks.of_pure rfl
  have L8 : Looks (model prog w) hh (typeLookup (.type T) (dunderR nm)) ro := looks_findIn X h2
  generalize ((fo.isSome && !isSeqSlot fo) || (ro.isSome && !isSeqSlot ro)) = right at L4
  have hne : (Value.ref C == Value.type T) = false := Bool.eq_false_iff.mpr fun q => by cases beq_iff_eq.mp q
  unfold binaryOp1
  refine wpAny_bind (L1.at (wpAny_bind (hb.at (wpAny_bind (L3.at ?_)))))
  simp only [hne, Bool.false_eq_true, if_false]
  cases right
  · ksp_lk
    refine wpAny_mono one (fun r s' hr' => ?_) fun _ _ e => e
    obtain ⟨v, rfl, hq⟩ := hr'
    ksp_lk
    exact ⟨_, rfl, hq⟩
  · ksp_lk
    refine wpAny_mono one (fun r s' hr' => ?_) fun _ _ e => e
    obtain ⟨v, rfl, hq⟩ := hr'
    ksp_lk
    exact ⟨_, rfl, hq⟩
theorem bin1_K {Q : Value → Shared → Prop} (X : K.In s.heap) (I : InstAt s.heap x ox C od) (hb : Looks (model prog w) s.heap (typeOf b) (.ref C)) (hc : selfFirst K C = true)
    (hs : findIn K (.ref C) (PySem.dunder nm) = some (some (.ref f))) (hf : isFn K (.ref f) = true)
    (h : wpAny (model prog w) A (call (.ref f) [.ref x, b]) (PySem.W.CmpBack Q) E s) : wpAny (model prog w) A (binaryOp1 nm (.ref x) b) (fun r s' => ∃ v, r = some v ∧ Q v s') E s := by
  obtain ⟨cd, rest, hcd, hm⟩ := ksp_first hc
  have one := ksp_try X I hs hf h
  unfold binaryOp1
  refine wpAny_bind (I.type.here (wpAny_bind (hb.here (wpAny_bind ((fills_K X hcd hm hs).here ?_)))))
  simp only [beq_self_eq_true, if_true]
  refine wpAny_bind (wpAny_pure ?_)
  simp only [Bool.and_false, Bool.false_eq_true, if_false, Bool.false_and]
  refine wpAny_bind (wpAny_pure ?_)
  simp only [Bool.false_eq_true, if_false]
  refine wpAny_bind (m := tryMethod (.ref x) _ b) (wpAny_mono one (fun r s' hr' => ?_) fun _ _ e => e)
  obtain ⟨v, rfl, hq⟩ := hr'
  exact wpAny_pure ⟨_, rfl, hq⟩
theorem bin_of1 {op : Operator} {a : Value} {Q : Value → Shared → Prop} (h : wpAny (model prog w) A (binaryOp1 op.info.2 a b) (fun r s' => ∃ v, r = some v ∧ Q v s') E s) : wpAny (model prog w) A (binaryOp op a b) Q E s := by
  rcases hi : op.info with ⟨sym, nm'⟩
  rw [hi] at h
  simp only [binaryOp, hi]
  refine wpAny_holding (wpAny_bind (wpAny_mono h (fun r s' z => ?_) fun _ _ e => e))
  obtain ⟨v, rfl, hq⟩ := z
  exact wpAny_pure hq
/-- no in-place method along the class and object -/
structure NoI (K : Frag) (C : Addr) (nm : String) : Prop where
  cd : ∃ cd, clsIn K C = some cd ∧ cd.mro = [.ref C, .type "object"]
  l : findIn K (.ref C) (dunderI nm) = some none
  o : fastLookup "object" (dunderI nm) = some none
theorem fillsI_no {M : Model} {h : Heap} {add : Bool} (X : K.In h) (N : NoI K C nm) : Looks M h (fillsInplaceSlot (.ref C) nm add) false := by
  obtain ⟨⟨cd, hc, hm⟩, hl, ho⟩ := N
  intro A Q E s k q
  have Lm : Looks M h (mroOf (.ref C)) cd.mro := (looks_clsIn X hc).andThen (f := fun cd => pure cd.mro) .now
  have Lm' := Lm.keeps k
  obtain ⟨hh, g, d, tt, os⟩ := s
  have X' : K.In hh := X.keeps k
  have L1 : Looks M hh (typeLookup (.ref C) (dunderI nm)) none := looks_findIn X' hl
  have L2 : Looks M hh (typeLookup (.type "object") (dunderI nm)) none := looks_findIn X' (t := .type "object") ho
  unfold fillsInplaceSlot
  refine wpAny_bind (Lm'.at ?_)
  rw [hm, List.anyM_cons]
  refine wpAny_bind ?_
  repeat lk
  first
    | exact q
    | (rw [List.anyM_cons]; refine wpAny_bind ?_; repeat lk; first | exact q | (rw [List.anyM_nil]; exact wpAny_pure q))
theorem ip_of1 {op : Operator} {Q : Value → Shared → Prop} (X : K.In s.heap) (I : InstAt s.heap x ox C od) (N : NoI K C op.info.2) (h : wpAny (model prog w) A (binaryOp1 op.info.2 (.ref x) b) (fun r s' => ∃ v, r = some v ∧ Q v s') E s) : wpAny (model prog w) A (inplaceOp op (.ref x) b) Q E s := by
  unfold inplaceOp
  refine wpAny_holding ?_
  refine wpAny_bind (I.type.here (wpAny_bind ((fillsI_no X N).here ?_)))
  simp only [Bool.false_eq_true, if_false]
  refine wpAny_bind (wpAny_mono h (fun r s' z => ?_) fun _ _ e => e)
  obtain ⟨v, rfl, hq⟩ := z
  exact wpAny_pure hq
end
end Ps

/-! Rules: operators and comparisons of own instances with values of any known type. -/
namespace Ps
open PySem PySem.Spec PyProof.Rows PySem.W L2

section
variable {Z : Cz} {X : Cx} {CX : CXT} {k : Nat} {C : Addr} {ps : List Str} {sp : Sp} {E : XK}
/-- a value that stands right of an operator -/
def Sd (K : Frag) (C : Addr) (nm : String) (H : Hp) (y : V) : Prop := ∃ t, TyX K H y t ∧ (t = .ref C ∨ ∃ T, t = .type T ∧ Bt T nm)
def rBin (K : Frag) (C : Addr) (nm : String) (sp : Sp) (E : XK) : R2 := fun x y H Q => InsC C H x ∧ Sd K C nm H y ∧ sp [x, y] H Q E
theorem bin1_any {nm : String} {f : Addr} {fd : FuncData} {rc : Option Value} {pins : List (Addr × Obj)} {s : Shared} {σ : L2.St} {H : Hp} {x y : V} {v u : Value} {Q : VK} (O : OwnOp X.K C f (PySem.dunder nm)) (hrc : findIn X.K (.ref C) (dunderR nm) = some rc) (hp : rc = none ∨ ∃ g : Addr, rc = some (.ref g))
    (G : FnOk X.prog X.w X.K X.mg X.base CX k f fd ps sp) (hr : Room k X.A) (hb : Binds X.K fd ps []) (hx : Passes CX X E) (I : L2.Inv X pins σ H s) (rx : RelV x v) (ry : RelV y u) (h : rBin X.K C nm sp E x y H Q) :
    ∃ a ox od, v = .ref a ∧ InstAt s.heap a ox C od ∧ wpAny (model X.prog X.w) X.A (binaryOp1 nm v u) (fun r s' => ∃ z, r = some z ∧ EP X pins σ Q z s') X.xe s := by
  obtain ⟨⟨a, dx, fs, rfl, ha⟩, ⟨t, ty, ht⟩, h⟩ := h
  cases (show v = Value.ref a from rx)
  obtain ⟨mA, J0, _⟩ := ins_get I.hok ha
  obtain ⟨od, J, _⟩ := J0.look
  obtain ⟨P, Zk, p, _⟩ := kit_of I ry ty
  have hl := Zk.ty (model X.prog X.w) s.heap I.kIn p
  have hcall := wpAny_mono (run_fn (us := [.ref a, u]) (vs := [.ref a, y]) (dvs := []) G hr hb .nil hx I (.cons rfl (.cons ry .nil)) h) (fun _ _ z => cmpBack z) fun _ _ z => z
  rcases ht with rfl | ⟨T, rfl, B⟩
  · exact ⟨a, _, _, rfl, J, bin1_K I.kIn J hl O.sf O.fn O.isf hcall⟩
  · exact ⟨a, _, _, rfl, J, bin1_T I.kIn J hl O.sf O.fn O.isf hrc hp B hcall⟩
/-- what is known of the reflected method of a class -/
structure Rfl (K : Frag) (C : Addr) (nm : String) : Prop where
  r : ∃ rc, findIn K (.ref C) (dunderR nm) = some rc ∧ (rc = none ∨ ∃ g : Addr, rc = some (.ref g))
theorem op_bin {op : Operator} (c : CalS Z CX k C (PySem.dunder op.info.2) ps sp) (N : Rfl Z.K C op.info.2) (hr : Room k X.A) (hx : Passes CX X E) (z : InZ Z X := by exact ⟨rfl, rfl, rfl, rfl, rfl⟩) : OpR X (binaryOp op) (rBin Z.K C op.info.2 sp E) := by
  obtain ⟨f, fd, G, h1, h2⟩ := c
  obtain ⟨rc, hrc, hp⟩ := N.r
  have z' := z
  obtain ⟨e1, e2, e3, e4, e5⟩ := z
  intro pins s σ H x y v u Q I rx ry h
  obtain ⟨a, ox, od, rfl, J, w1⟩ := bin1_any (X := X) (by rw [e3]; exact h1) (by rw [e3]; exact hrc) hp (z'.ok G) hr (by rw [e3]; exact h2) hx I rx ry (by rw [e3]; exact h)
  exact bin_of1 w1
theorem ip_bin {op : Operator} (c : CalS Z CX k C (PySem.dunder op.info.2) ps sp) (N : Rfl Z.K C op.info.2) (O : NoI Z.K C op.info.2) (hr : Room k X.A) (hx : Passes CX X E) (z : InZ Z X := by exact ⟨rfl, rfl, rfl, rfl, rfl⟩) : PIp X op (rBin Z.K C op.info.2 sp E) := by
  obtain ⟨f, fd, G, h1, h2⟩ := c
  obtain ⟨rc, hrc, hp⟩ := N.r
  have z' := z
  obtain ⟨e1, e2, e3, e4, e5⟩ := z
  intro pins s σ H x y v u Q I rx ry h
  obtain ⟨a, ox, od, rfl, J, w1⟩ := bin1_any (X := X) (by rw [e3]; exact h1) (by rw [e3]; exact hrc) hp (z'.ok G) hr (by rw [e3]; exact h2) hx I rx ry (by rw [e3]; exact h)
  exact ip_of1 I.kIn J (by rw [e3]; exact O) w1
/-! ### comparisons -/
def Nf (K : Frag) (C : Addr) (H : Hp) (y : V) : Prop := ∃ t, TyX K H y t ∧ notFirst K C t = true
def rCmp (K : Frag) (C : Addr) (sp : Sp) (E : XK) : R2 := fun x y H Q => InsC C H x ∧ Nf K C H y ∧ sp [x, y] H Q E
theorem op_cmp {op : CmpOp} (c : CalS Z CX k C (cmpInfo op).2.1 ps sp) (hr : Room k X.A) (hx : Passes CX X E) (z : InZ Z X := by exact ⟨rfl, rfl, rfl, rfl, rfl⟩) (hop : ∀ a b, compareOp op a b = richCompare op a b := by intro _ _; rfl) : OpR X (compareOp op) (rCmp Z.K C sp E) := by
  obtain ⟨f, fd, G, h1, h2⟩ := c
  have z' := z
  obtain ⟨e1, e2, e3, e4, e5⟩ := z
  intro pins s σ H x y v u Q I rx ry h
  obtain ⟨⟨a, dx, fs, rfl, ha⟩, ⟨t, ty, ht⟩, h⟩ := h
  cases (show v = Value.ref a from rx)
  rw [← e3] at ty ht h1
  obtain ⟨mA, J0, _⟩ := ins_get I.hok ha
  obtain ⟨od, J, _⟩ := J0.look
  obtain ⟨P, Zk, p, _⟩ := kit_of I ry ty
  obtain ⟨m, hF⟩ := I.fr
  rw [hop]
  refine cmp_K hr.units0 hF I.ok.mod.kin J (Zk.ty (model X.prog X.w) s.heap I.kIn p) ht h1.fn h1.isf ?_
  exact wpAny_mono (run_fn (us := [.ref a, u]) (vs := [.ref a, y]) (dvs := []) (z'.ok G) hr (by rw [e3]; exact h2) .nil hx I (.cons rfl (.cons ry .nil)) h) (fun _ _ z => cmpBack z) fun _ _ z => z
/-- what is known of != -/
structure NeT (K : Frag) (C : Addr) : Prop where
  ne : findIn K (.ref C) "__ne__" = some (some (.builtin "object.__ne__"))
  m : mroIn K C (.type "object") = some true
def rNe (K : Frag) (C : Addr) (sp : Sp) (E : XK) : R2 := fun x y H Q => InsC C H x ∧ Nf K C H y ∧ sp [x, y] H (fun v H' => ∃ b, v = .bl b ∧ Q (.bl (!b)) H') E
theorem ne_back {pins : List (Addr × Obj)} {σ : L2.St} {Q : VK} {v : Value} {s : Shared} (h : EP X pins σ (fun v H' => ∃ b, v = .bl b ∧ Q (.bl (!b)) H') v s) : ∃ r, v = .bool r ∧ EP X pins σ Q (.bool (!r)) s := by
  obtain ⟨v', H', I, r, b, rfl, q⟩ := h
  cases (show v = Value.bool b from r)
  exact ⟨b, rfl, .bl (!b), H', I, rfl, q⟩
theorem op_ne_ (c : CalS Z CX k C "__eq__" ps sp) (N : NeT Z.K C) (hr : Room (k + 1) X.A) (hx : Passes CX X E) (z : InZ Z X := by exact ⟨rfl, rfl, rfl, rfl, rfl⟩) : OpR X (compareOp .NotEq) (rNe Z.K C sp E) := by
  obtain ⟨f, fd, G, h1, h2⟩ := c
  have z' := z
  obtain ⟨e1, e2, e3, e4, e5⟩ := z
  intro pins s σ H x y v u Q I rx ry h
  obtain ⟨⟨a, dx, fs, rfl, ha⟩, ⟨t, ty, ht⟩, h⟩ := h
  cases (show v = Value.ref a from rx)
  rw [← e3] at ty ht h1 N
  obtain ⟨mA, J0, _⟩ := ins_get I.hok ha
  obtain ⟨od, J, _⟩ := J0.look
  obtain ⟨P, Zk, p, _⟩ := kit_of I ry ty
  show wpAny _ _ (richCompare .NotEq (.ref a) u) _ _ _
  refine cmp_ne (hu_of hr) I.kIn J (Zk.ty (model X.prog X.w) s.heap I.kIn p) ht N.ne N.m h1.fn h1.isf ?_
  exact wpAny_mono (run_fn1 (us := [.ref a, u]) (vs := [.ref a, y]) (z'.ok G) hr (by rw [e3]; exact h2) hx I (.cons rfl (.cons ry .nil)) h) (fun _ _ z => ne_back z) fun _ _ z => z
/-! an int on the left -/
def rCmpI (C : Addr) (sp : Sp) (E : XK) : R2 := fun x y H Q => (∃ i, x = .int i) ∧ InsC C H y ∧ sp [y, x] H Q E
theorem one_int {op : CmpOp} {i : Int} {t : Tok} {x : Addr} : oneThing? op (.int i t) (.ref x) = none := by cases op <;> rfl
theorem op_cmpI {op : CmpOp} {id : String} (c : CalS Z CX k C (cmpInfo op).2.2 ps sp) (hsub : subIn Z.K (.ref C) (.type "int") = some false) (sl : Slot "int" (cmpInfo op).2.1 id)
    (hd : ∀ {s : Shared} {x C dx : Addr} {t : Tok} {i : Int} {Q : Value → Shared → Prop}, s.heap.get? x = some (instObj C dx) → Q .notImplemented s → wpAny (model X.prog X.w) X.A (call (.builtin id) [.int i t, .ref x]) Q X.xe s)
    (hr : Room k X.A) (hx : Passes CX X E) (z : InZ Z X := by exact ⟨rfl, rfl, rfl, rfl, rfl⟩) (hop : ∀ a b, compareOp op a b = richCompare op a b := by intro _ _; rfl) : OpR X (compareOp op) (rCmpI C sp E) := by
  obtain ⟨f, fd, G, h1, h2⟩ := c
  have z' := z
  obtain ⟨e1, e2, e3, e4, e5⟩ := z
  intro pins s σ H x y v u Q I rx ry h
  obtain ⟨⟨i, rfl⟩, ⟨a, dx, fs, rfl, ha⟩, h⟩ := h
  cases (show u = Value.ref a from ry)
  obtain ⟨t, e⟩ := (show ∃ t, v = Value.int i t from rx)
  cases e
  rw [← e3] at hsub h1
  obtain ⟨mA, J0, _⟩ := ins_get I.hok ha
  obtain ⟨_, _, _, hget, _⟩ := (show ObjOk X.prog X.w H s.heap a (.ins C dx fs) from I.hok a _ ha)
  obtain ⟨od, J, _⟩ := J0.look
  rw [hop]
  refine cmp_R hr.units0 I.kIn J hsub one_int (wpAny_tryCompare_declines (typeIs_int _ i t) sl (hd hget ⟨rfl, rfl, rfl⟩)) ?_
  unfold tryCompare
  refine wpAny_bind (ifBound_K I.kIn J h1.fn h1.isf (wpAny_mono (run_fn (us := [.ref a, .int i t]) (vs := [.ref a, .int i]) (dvs := []) (z'.ok G) hr (by rw [e3]; exact h2) .nil hx I (.cons rfl (.cons ⟨t, rfl⟩ .nil)) h) (fun v s' z => ?_) fun _ _ z => z))
  have z2 := cmpBack z
  cases v <;> first | exact False.elim z2 | exact wpAny_pure ⟨_, rfl, z⟩
def rNeI (C : Addr) (sp : Sp) (E : XK) : R2 := fun x y H Q => (∃ i, x = .int i) ∧ InsC C H y ∧ sp [y, x] H (fun v H' => ∃ b, v = .bl b ∧ Q (.bl (!b)) H') E
theorem op_neI (c : CalS Z CX k C "__eq__" ps sp) (N : NeT Z.K C) (hsub : subIn Z.K (.ref C) (.type "int") = some false) (hr : Room (k + 1) X.A) (hx : Passes CX X E) (z : InZ Z X := by exact ⟨rfl, rfl, rfl, rfl, rfl⟩) : OpR X (compareOp .NotEq) (rNeI C sp E) := by
  obtain ⟨f, fd, G, h1, h2⟩ := c
  have z' := z
  obtain ⟨e1, e2, e3, e4, e5⟩ := z
  intro pins s σ H x y v u Q I rx ry h
  obtain ⟨⟨i, rfl⟩, ⟨a, dx, fs, rfl, ha⟩, h⟩ := h
  cases (show u = Value.ref a from ry)
  obtain ⟨t, e⟩ := (show ∃ t, v = Value.int i t from rx)
  cases e
  rw [← e3] at hsub h1 N
  obtain ⟨mA, J0, _⟩ := ins_get I.hok ha
  obtain ⟨_, _, _, hget, _⟩ := (show ObjOk X.prog X.w H s.heap a (.ins C dx fs) from I.hok a _ ha)
  obtain ⟨od, J, _⟩ := J0.look
  show wpAny _ _ (richCompare .NotEq (.int i t) (.ref a)) _ _ _
  refine cmp_R hr.units0 I.kIn J hsub one_int (wpAny_tryCompare_declines (typeIs_int _ i t) F.slot_int_ne (dec_ne hget ⟨rfl, rfl, rfl⟩)) ?_
  show wpAny _ _ (tryCompare (.ref a) "__ne__" (.int i t)) _ _ _
  refine tryNe (hu_of hr) I.kIn J N.ne N.m h1.fn h1.isf ?_
  refine wpAny_mono (run_fn1 (us := [.ref a, .int i t]) (vs := [.ref a, .int i]) (z'.ok G) hr (by rw [e3]; exact h2) hx I (.cons rfl (.cons ⟨t, rfl⟩ .nil)) h) (fun _ _ z => ?_) fun _ _ z => z
  obtain ⟨r, rfl, q⟩ := ne_back z
  exact ⟨r, rfl, _, rfl, q⟩
end
/-! ### facts of built-in classes -/
theorem nf_ty {K : Frag} {C : Addr} {T : String} (h : (fastBuiltinMro T).map (fun l => l.all fun v => match v with | .type _ => true | _ => false) = some true) : notFirst K C (.type T) = true := by
  unfold notFirst
  rw [noRef h]
  simp
theorem nf_own {K : Frag} {C : Addr} : notFirst K C (.ref C) = true := by simp [notFirst]
theorem nf_int {K : Frag} {C : Addr} : notFirst K C (.type "int") = true := nf_ty (by decide +kernel)
theorem nf_bool {K : Frag} {C : Addr} : notFirst K C (.type "bool") = true := nf_ty (by decide +kernel)
theorem nf_str {K : Frag} {C : Addr} : notFirst K C (.type "str") = true := nf_ty (by decide +kernel)
theorem nf_non {K : Frag} {C : Addr} : notFirst K C (.type "NoneType") = true := nf_ty (by decide +kernel)
theorem nf_flt {K : Frag} {C : Addr} : notFirst K C (.type "float") = true := nf_ty (by decide +kernel)
theorem nf_list {K : Frag} {C : Addr} : notFirst K C (.type "list") = true := nf_ty (by decide +kernel)
theorem nf_tuple {K : Frag} {C : Addr} : notFirst K C (.type "tuple") = true := nf_ty (by decide +kernel)
theorem nf_dict {K : Frag} {C : Addr} : notFirst K C (.type "dict") = true := nf_ty (by decide +kernel)
end Ps

/-! Shares: their comparisons, where nothing is raised. -/
namespace Ps
open PySem PySem.Spec PyProof.Rows PySem.W L2

/-- v is no number -/
def NotNum (K : Frag) (C : Addr) (H : Hp) (v : V) : Prop := ∃ t, TyX K H v t ∧ kitOne K t (.ref C) = some false ∧ notFirst K C t = true ∧ (t = .type "bool" ∨ kitOne K t (.type "int") = some false)
def spIsNum (K : Frag) (C : Addr) : Sp := fun vs H Q _ => ∃ v, vs = [v] ∧ (((∃ q, Nb C H v q) ∧ Q (.bl true) H) ∨ (NotNum K C H v ∧ Q (.bl false) H))
def gMin (q r : Int × Int) : Int := q.1 * r.2 - r.1 * q.2
def spMinus (C : Addr) : Sp := fun vs H Q _ => ∃ x y q r, vs = [x, y] ∧ Sh C H x q ∧ Nb C H y r ∧ Sz 4000 q ∧ Sz 4000 r ∧ ∀ H', Same H H' → Q (.int (gMin q r)) H'
def spOrd (C : Addr) (g : Int → Bool) : Sp := fun vs H Q _ => ∃ x y q r, vs = [x, y] ∧ Sh C H x q ∧ Nb C H y r ∧ Sz 4000 q ∧ Sz 4000 r ∧ ∀ H', Same H H' → Q (.bl (g (gMin q r))) H'
def spShEq (K : Frag) (C : Addr) : Sp := fun vs H Q _ => ∃ x y q, vs = [x, y] ∧ Sh C H x q ∧ ((∃ r, Nb C H y r ∧ Sz 4000 q ∧ Sz 4000 r ∧ ∀ H', Same H H' → Q (.bl (decide (gMin q r = 0))) H') ∨ (NotNum K C H y ∧ Q (.bl false) H))
theorem Nb.nf {Z : Cz} {C : Addr} (T : ShT Z C) {H : Hp} {y : V} {q : Int × Int} (h : Nb C H y q) : Nf Z.K C H y := by
  rcases h with ⟨a, dx, rfl, ha⟩ | ⟨i, rfl, _⟩
  · exact ⟨_, T.ty ha, nf_own⟩
  · exact ⟨_, .base (.int _), nf_int⟩
theorem NotNum.nf {K : Frag} {C : Addr} {H : Hp} {y : V} (h : NotNum K C H y) : Nf K C H y := by
  obtain ⟨t, ty, _, hn, _⟩ := h
  exact ⟨t, ty, hn⟩
section
variable {Z : Cz} {f C : Addr} {fd : FuncData}
theorem ok_is_number (F : Fun Z.K "is_number" "is_number" s_is_number f fd) (T : ShT Z C) (c_is_integer : Cal Z CX0 1 "is_integer" ["value"] [] (spIsInt Z.K)) : Z.ok CX0 2 f fd ["value"] (spIsNum Z.K C) := by
  refine F.ok sc_is_number (fun vs H Q E h => ?_) (fun cdv A outer s H vs Q E hr h => ?_)
  · obtain ⟨v, rfl, _⟩ := h
    rfl
  · obtain ⟨v, rfl, h⟩ := h
    refine ⟨_, (pss_one (ps_ret (pe_or (pe_callB call_isi (by rfl) T.isi (by decide +kernel) (pa_cons (pv 0) (pa_cons (pe_glob (v := .ref C) rfl T.mgC rfl) pa_nil))) (pe_one (pe_cal c_is_integer (hr.mono (by decide)) (by rfl) pass0 (pa_cons (pv 0) pa_nil)))))), ?_⟩
    rcases h with ⟨⟨q, ⟨a, dx, rfl, ha⟩ | ⟨i, rfl, _⟩⟩, k⟩ | ⟨⟨t, ty, k1, _, k2⟩, k⟩
    · exact ⟨_, rfl, _, _, _, _, true, rfl, .own C, T.ty ha, T.kCC, _, rfl, iteT k⟩
    · refine ⟨_, rfl, _, _, _, _, false, rfl, .own C, .base (.int _), T.kIC, _, rfl, iteF ?_⟩
      exact ⟨_, rfl, _, _, rfl, .base (.int _), .inl ⟨rfl, k⟩⟩
    · refine ⟨_, rfl, _, _, _, _, false, rfl, .own C, ty, k1, _, rfl, iteF ?_⟩
      rcases k2 with rfl | k2
      · exact ⟨_, rfl, _, _, rfl, ty, .inr (.inl ⟨rfl, k⟩)⟩
      · exact ⟨_, rfl, _, _, rfl, ty, .inr (.inr ⟨k2, k⟩)⟩
theorem ok_minus (F : Fun Z.K "minus" "Share.minus" s_Share_minus f fd) (T : ShT Z C) (c_share_of_number : CNum Z C) : Z.ok CX0 5 f fd ["self", "other"] (spMinus C) := by
  refine F.ok sc_Share_minus (fun vs H Q E h => ?_) (fun cdv A outer s H vs Q E hr h => ?_)
  · obtain ⟨x, y, q, r, rfl, _⟩ := h
    rfl
  · obtain ⟨x, y, q, r, rfl, hx, hy, hq, hr', k⟩ := h
    refine ⟨_, (pss_cons (ps_set (i := 1) sc_Share_minus.nd rfl (Or.inl rfl) (pe_cal c_share_of_number (hr.mono (by decide)) (by rfl) pass0 (pa_cons (pv 1) pa_nil)))
      (pss_one (ps_ret (pe_op op_sub (pe_op op_mulW (pe_fld (pv 0) rfl) (pe_fld (pv 1) rfl)) (pe_op op_mulW (pe_fld (pv 1) rfl) (pe_fld (pv 0) rfl)))))), ?_⟩
    refine ⟨_, rfl, _, r, rfl, hy, fun y' H1 e1 hy' => ?_⟩
    obtain ⟨a, dx, rfl, ha⟩ := hx.mono e1
    obtain ⟨b, dy, rfl, hb⟩ := id hy'
    refine ⟨_, rfl, a, C, dx, _, _, rfl, ha, T.cl, T.nT, shF_top _ _, _, rfl, b, C, dy, _, _, rfl, hb, T.cl, T.nU, shF_under _ _, _, _, rfl, rfl, lt_mul hq.t hr'.u, ?_⟩
    exact ⟨_, rfl, b, C, dy, _, _, rfl, hb, T.cl, T.nT, shF_top _ _, _, rfl, a, C, dx, _, _, rfl, ha, T.cl, T.nU, shF_under _ _, _, _, rfl, rfl, lt_mul hr'.t hq.u, _, _, rfl, rfl, k _ e1⟩
abbrev CMinus (Z : Cz) (C : Addr) : Prop := CalM Z CX0 5 C "minus" ["self", "other"] [] (spMinus C)
theorem shF_no' (t u : Int) (m : Str) (h1 : (m == ("own_top" : Str)) = false) (h2 : (m == ("own_under" : Str)) = false) : (shF t u).lookup m = none := by
  unfold shF
  rw [List.lookup_cons, h1, List.lookup_cons, h2]
  rfl
theorem ok_lt (F : Fun Z.K "__lt__" "Share.__lt__" s_Share_dd_lt f fd) (c_minus : CMinus Z C) : Z.ok CX0 6 f fd ["self", "other"] (spOrd C fun i => decide (i < 0)) := by
  refine F.ok sc_Share_dd_lt (fun vs H Q E h => ?_) (fun cdv A outer s H vs Q E hr h => ?_)
  · obtain ⟨x, y, q, r, rfl, _⟩ := h
    rfl
  · obtain ⟨x, y, q, r, rfl, hx, hy, hq, hr', k⟩ := h
    refine ⟨_, (pss_one (ps_ret (pe_cmpR op_lt (pe_calM c_minus (hr.mono (by decide)) pass0 (pv 0) (pa_cons (pv 1) pa_nil)) pe_int (nomark _)))), ?_⟩
    obtain ⟨a, dx, rfl, ha⟩ := id hx
    exact ⟨_, rfl, a, dx, _, rfl, ha, shF_no' _ _ _ (by decide) (by decide), _, rfl, _, _, _, _, rfl, hx, hy, hq, hr', fun H' e => ⟨_, _, rfl, rfl, k _ e⟩⟩
theorem ok_le (F : Fun Z.K "__le__" "Share.__le__" s_Share_dd_le f fd) (c_minus : CMinus Z C) : Z.ok CX0 6 f fd ["self", "other"] (spOrd C fun i => decide (i ≤ 0)) := by
  refine F.ok sc_Share_dd_le (fun vs H Q E h => ?_) (fun cdv A outer s H vs Q E hr h => ?_)
  · obtain ⟨x, y, q, r, rfl, _⟩ := h
    rfl
  · obtain ⟨x, y, q, r, rfl, hx, hy, hq, hr', k⟩ := h
    refine ⟨_, (pss_one (ps_ret (pe_cmpR op_le (pe_calM c_minus (hr.mono (by decide)) pass0 (pv 0) (pa_cons (pv 1) pa_nil)) pe_int (nomark _)))), ?_⟩
    obtain ⟨a, dx, rfl, ha⟩ := id hx
    exact ⟨_, rfl, a, dx, _, rfl, ha, shF_no' _ _ _ (by decide) (by decide), _, rfl, _, _, _, _, rfl, hx, hy, hq, hr', fun H' e => ⟨_, _, rfl, rfl, k _ e⟩⟩
theorem ok_gt (F : Fun Z.K "__gt__" "Share.__gt__" s_Share_dd_gt f fd) (c_minus : CMinus Z C) : Z.ok CX0 6 f fd ["self", "other"] (spOrd C fun i => decide (0 < i)) := by
  refine F.ok sc_Share_dd_gt (fun vs H Q E h => ?_) (fun cdv A outer s H vs Q E hr h => ?_)
  · obtain ⟨x, y, q, r, rfl, _⟩ := h
    rfl
  · obtain ⟨x, y, q, r, rfl, hx, hy, hq, hr', k⟩ := h
    refine ⟨_, (pss_one (ps_ret (pe_cmpR op_gt (pe_calM c_minus (hr.mono (by decide)) pass0 (pv 0) (pa_cons (pv 1) pa_nil)) pe_int (nomark _)))), ?_⟩
    obtain ⟨a, dx, rfl, ha⟩ := id hx
    exact ⟨_, rfl, a, dx, _, rfl, ha, shF_no' _ _ _ (by decide) (by decide), _, rfl, _, _, _, _, rfl, hx, hy, hq, hr', fun H' e => ⟨_, _, rfl, rfl, k _ e⟩⟩
theorem ok_ge (F : Fun Z.K "__ge__" "Share.__ge__" s_Share_dd_ge f fd) (c_minus : CMinus Z C) : Z.ok CX0 6 f fd ["self", "other"] (spOrd C fun i => decide (0 ≤ i)) := by
  refine F.ok sc_Share_dd_ge (fun vs H Q E h => ?_) (fun cdv A outer s H vs Q E hr h => ?_)
  · obtain ⟨x, y, q, r, rfl, _⟩ := h
    rfl
  · obtain ⟨x, y, q, r, rfl, hx, hy, hq, hr', k⟩ := h
    refine ⟨_, (pss_one (ps_ret (pe_cmpR op_ge (pe_calM c_minus (hr.mono (by decide)) pass0 (pv 0) (pa_cons (pv 1) pa_nil)) pe_int (nomark _)))), ?_⟩
    obtain ⟨a, dx, rfl, ha⟩ := id hx
    exact ⟨_, rfl, a, dx, _, rfl, ha, shF_no' _ _ _ (by decide) (by decide), _, rfl, _, _, _, _, rfl, hx, hy, hq, hr', fun H' e => ⟨_, _, rfl, rfl, k _ e⟩⟩
theorem ok_eq (F : Fun Z.K "__eq__" "Share.__eq__" s_Share_dd_eq f fd) (c_minus : CMinus Z C) (c_is_number : Cal Z CX0 2 "is_number" ["value"] [] (spIsNum Z.K C)) : Z.ok CX0 6 f fd ["self", "other"] (spShEq Z.K C) := by
  refine F.ok sc_Share_dd_eq (fun vs H Q E h => ?_) (fun cdv A outer s H vs Q E hr h => ?_)
  · obtain ⟨x, y, q, rfl, _⟩ := h
    rfl
  · obtain ⟨x, y, q, rfl, hx, h⟩ := h
    refine ⟨_, (pss_cons (ps_if (pt_not (pt_val (pe_cal c_is_number (hr.mono (by decide)) (by rfl) pass0 (pa_cons (pv 1) pa_nil))))
      (pss_one (ps_ret pe_bl))
      pss_nil)
      (pss_one (ps_ret (pe_cmpR op_eq (pe_calM c_minus (hr.mono (by decide)) pass0 (pv 0) (pa_cons (pv 1) pa_nil)) pe_int (nomark _))))), ?_⟩
    rcases h with ⟨r, hy, hq, hr', k⟩ | ⟨hn, k⟩
    · refine ⟨_, rfl, _, rfl, .inl ⟨⟨_, hy⟩, _, rfl, iteF ?_⟩⟩
      obtain ⟨a, dx, rfl, ha⟩ := id hx
      refine ⟨_, rfl, a, dx, _, rfl, ha, shF_no' _ _ _ (by decide) (by decide), _, rfl, _, _, _, _, rfl, hx, hy, hq, hr', fun H' e => ⟨rfl, ?_⟩⟩
      have := k _ e
      rw [show decide (V.int (gMin q r) = V.int 0) = decide (gMin q r = 0) from decide_eq_decide.mpr ⟨V.int.inj, fun z => by rw [z]⟩]
      exact this
    · exact ⟨_, rfl, _, rfl, .inr ⟨hn, _, rfl, iteT k⟩⟩
end
end Ps

/-! A head by facts: defs by where they stand (a global, a method, a property's getter, a static method), one Bool for all else. -/
namespace Ps
open PySem PySem.Spec PyProof.Rows PySem.W L2 He

inductive At where
  | g (x : Str)
  | m (x m : Str)
  | p (x m : Str)
  | ps (x m : Str)
  | sm (x m : Str)
def rec0 (K : Frag) (p : Addr) (T : String) : Addr := match recIn K p T with
  | some (.ref g :: _) => g
  | _ => 0
def rec1 (K : Frag) (p : Addr) (T : String) : Addr := match recIn K p T with
  | some (_ :: .ref g :: _) => g
  | _ => 0
def At.a (K : Frag) : At → Addr
  | .g x => ga K x
  | .m x n => ma K (ga K x) n
  | .p x n => rec0 K (ma K (ga K x) n) "property"
  | .ps x n => rec1 K (ma K (ga K x) n) "property"
  | .sm x n => rec0 K (ma K (ga K x) n) "staticmethod"
def hdB (K : Frag) (p : Addr) (T : String) (g : Addr) : Bool := match recIn K p T with
  | some (.ref h :: _) => decide (h = g)
  | _ => false
theorem hdB_ok {K : Frag} {p g : Addr} {T : String} (h : hdB K p T g = true) : ∃ rest, recIn K p T = some (.ref g :: rest) := by
  unfold hdB at h
  split at h
  · rename_i a r e
    exact ⟨r, by rw [e, of_decide_eq_true h]⟩
  · cases h
def findB (K : Frag) (C : Addr) (m : Str) : Bool := eqO (findIn K (.ref C) m) (some (some (.ref (ma K C m))))
def At.ok (K : Frag) : At → Bool
  | .g x => eqO (nsIn K mainGlobals x) (some (some (.ref (ga K x))))
  | .m x n => findB K (ga K x) n && (isFn K (.ref (ma K (ga K x) n)) && selfFirst K (ga K x))
  | .p x n => findB K (ga K x) n && (eqO (specialIn K (.ref (ma K (ga K x) n)) "__get__") (some (some (.builtin "property.__get__"))) && (decide (takesIn K (.ref (ma K (ga K x) n)) = some true) && hdB K (ma K (ga K x) n) "property" (rec0 K (ma K (ga K x) n) "property")))
  | .ps x n => true
  | .sm x n => findB K (ga K x) n && hdB K (ma K (ga K x) n) "staticmethod" (rec0 K (ma K (ga K x) n) "staticmethod")
section
variable {K : Frag} {h : Heap} {mg : Str → Option Value} {x m : Str}
theorem At.glo (X : K.In h) (G : h.Ns mainGlobals mg) (c : (At.g x).ok K = true) : mg x = some (.ref (ga K x)) := mg_of X G (eqO_ok c)
theorem At.own (c : (At.m x m).ok K = true) : OwnOp K (ga K x) (ma K (ga K x) m) m := by
  obtain ⟨c1, c⟩ := ba c
  obtain ⟨c2, c3⟩ := ba c
  exact ⟨c3, eqO_ok c1, c2⟩
theorem At.meth (c : (At.m x m).ok K = true) (k : keepIn K (.ref (ma K (ga K x) m)) = true) : Meth K (ga K x) m (ma K (ga K x) m) := by
  obtain ⟨c1, c⟩ := ba c
  obtain ⟨c2, c3⟩ := ba c
  exact ⟨eqO_ok c1, c2, k⟩
theorem At.prop (c : (At.p x m).ok K = true) : PropOf K (ga K x) m (ma K (ga K x) m) (rec0 K (ma K (ga K x) m) "property") := by
  obtain ⟨c1, c⟩ := ba c
  obtain ⟨c2, c⟩ := ba c
  obtain ⟨c3, c4⟩ := ba c
  exact ⟨eqO_ok c1, eqO_ok c2, of_decide_eq_true c3, hdB_ok c4⟩
end
structure DefP where
  at_ : At
  name : Str
  qual : Str
  st : Stmt
  dfl : List Dv := []
def fnP (K : Frag) (a : Addr) : FnW := match K.lookup a with
  | some ⟨_, _, .func fd, _⟩ => some (fd.name, fd.qualname, fd.params, fd.body, fd.scope, fd.globals, fd.closure, fd.builtins)
  | _ => none
def DefP.val (d : DefP) : FnW := some (d.name, d.qual, defArgs d.st, .stmts (defBody d.st), defScope d.st, mainGlobals, [], builtinsNs)
def DefP.dvs (K : Frag) (d : DefP) : List V := d.dfl.map (Dv.v K)
def DefP.ok (K : Frag) (d : DefP) : Bool := d.at_.ok K && (keepIn K (.ref (d.at_.a K)) && (match K.lookup (d.at_.a K) with
  | some ⟨_, _, .func fd, _⟩ => codeIn K fd.code d.qual && dflB K fd.defaults (d.dvs K)
  | _ => false))
theorem DefP.funD {K : Frag} {d : DefP} (e : fnP K (d.at_.a K) = d.val) (c : d.ok K = true) : d.at_.ok K = true ∧ ∃ fd, FunD K d.name d.qual (defArgs d.st) (defBody d.st) (defScope d.st) (d.dvs K) [] (d.at_.a K) fd := by
  obtain ⟨ca, c⟩ := ba c
  obtain ⟨kp, c2⟩ := ba c
  refine ⟨ca, ?_⟩
  unfold fnP at e
  cases q : K.lookup (d.at_.a K) with
  | none =>
    rw [q] at c2
    cases c2
  | some o =>
    obtain ⟨oc, od, dt, osl⟩ := o
    rw [q] at c2 e
    cases dt with
    | func fd =>
      obtain ⟨n1, n2, n3, n4, n5, n6, n7, n8, n9, n10, n11, n12, n13, n14, n15⟩ := fd
      have e2 : (some (n1, n2, n3, n4, n5, n6, n7, n15) : FnW) = some (d.name, d.qual, defArgs d.st, .stmts (defBody d.st), defScope d.st, mainGlobals, [], builtinsNs) := e
      simp only [Option.some.injEq, Prod.mk.injEq] at e2
      obtain ⟨h1, h2, h3, h4, h5, h6, h7, h8⟩ := e2
      subst h1 h2 h3 h4 h5 h6 h7 h8
      have c3 : (codeIn K n13 d.qual && dflB K n8 (d.dvs K)) = true := c2
      obtain ⟨k1, k3⟩ := ba c3
      exact ⟨_, ⟨oc, od, n8, n9, n10, n11, n12, n13, n14, osl, rfl, q, k1, dflB_ok k3, .inl rfl⟩, kp⟩
    | _ => cases c2
/-- without defaults -/
theorem FunD.toFun {K : Frag} {x qual : Str} {st : Stmt} {f : Addr} {fd : FuncData} (F : FunD K x qual (defArgs st) (defBody st) (defScope st) [] [] f fd) : Fun K x qual st f fd := by
  obtain ⟨⟨oc, od, dV, kV, doc, pm, an, cdv, ct, osl, e, lk, hcd, hD, hK⟩, kp⟩ := F
  rcases hD with ⟨_, rfl⟩ | ⟨z, _⟩
  · exact ⟨⟨oc, od, kV, doc, pm, an, cdv, ct, osl, e, lk, hcd⟩, kp⟩
  · exact absurd rfl z
abbrev AlP : Type := Bool × List FnW
def obsP (fn : List DefP) (ex : Frag → Bool) (K : Frag) : AlP := (ex K && fn.all fun d => d.ok K, fn.map fun d => fnP K (d.at_.a K))
def valP (fn : List DefP) : AlP := (true, fn.map DefP.val)
def SaysP (fn : List DefP) (ex : Frag → Bool) (K : Frag) : Prop := obsP fn ex K = valP fn
/-- what the names reach, and the interpreter's own statics -/
def asP (g : Addr → Option Obj) (n : Nat) : List Addr := asD g n ++ [cStatics]
def obsPG (n : Nat) (fn : List DefP) (ex : Frag → Bool) (g : Addr → Option Obj) : AlP := obsP fn ex (frG g (asP g n))
def hookP (n : Nat) (fn : List DefP) (ex : Frag → Bool) : Hook where
  α := AlP
  obs := fun s => obsPG n fn ex s.heap.get?
  val := fun _ => valP fn
  says := fun _ h => ∃ K : Frag, K.In h ∧ SaysP fn ex K
  of := fun _ _ e => ⟨_, frG_in, e⟩
  keeps := fun _ _ _ ⟨K, hK, c⟩ k => ⟨K, Frag.In.keeps hK k, c⟩
theorem obsPG_eq {n : Nat} {fn : List DefP} {ex : Frag → Bool} {g : Addr → Option Obj} {s : Shared} (h : ∀ a, g a = s.heap.get? a) : obsPG n fn ex g = (hookP n fn ex).obs s := by
  have e : g = s.heap.get? := funext h
  rw [e] <;> rfl
section
variable {fn : List DefP} {ex : Frag → Bool} {K : Frag}
theorem SaysP.more (c : SaysP fn ex K) : ex K = true := (ba (show (ex K && fn.all fun d => d.ok K) = true from congrArg (fun z : AlP => z.1) c)).1
theorem SaysP.def_ (c : SaysP fn ex K) (i : Nat) {d : DefP} (h : fn[i]? = some d := by rfl) : d.at_.ok K = true ∧ ∃ fd, FunD K d.name d.qual (defArgs d.st) (defBody d.st) (defScope d.st) (d.dvs K) [] (d.at_.a K) fd := by
  have c2 := (ba (show (ex K && fn.all fun d => d.ok K) = true from congrArg (fun z : AlP => z.1) c)).2
  have e : fn.map (fun d => fnP K (d.at_.a K)) = fn.map DefP.val := congrArg (fun z : AlP => z.2) c
  have e2 : (fn.map fun d => fnP K (d.at_.a K))[i]? = (fn.map DefP.val)[i]? := by rw [e]
  rw [List.getElem?_map, List.getElem?_map, h] at e2
  exact DefP.funD (Option.some.inj e2) (List.all_eq_true.mp c2 d (List.mem_of_getElem? h))
end
/-- the plain def at x: what is known of it -/
structure Got (K : Frag) (mg : Str → Option Value) (x : Str) (st : Stmt) (f : Addr) (fd : FuncData) : Prop where
  F : Fun K x x st f fd
  m : mg x = some (.ref f)
/-- the method m of class x -/
structure GotM (K : Frag) (C : Addr) (m qual : Str) (st : Stmt) (f : Addr) (fd : FuncData) : Prop where
  F : Fun K m qual st f fd
  o : OwnOp K C f m
structure GotP (K : Frag) (C : Addr) (m qual : Str) (st : Stmt) (p f : Addr) (fd : FuncData) : Prop where
  F : Fun K m qual st f fd
  o : PropOf K C m p f
section
variable {fn : List DefP} {ex : Frag → Bool} {K : Frag} {h : Heap} {mg : Str → Option Value} {x m qual : Str} {st : Stmt}
theorem SaysP.glo (c : SaysP fn ex K) (X : K.In h) (G : h.Ns mainGlobals mg) (i : Nat) (e : fn[i]? = some ⟨.g x, x, x, st, []⟩) : ∃ f fd, Got K mg x st f fd := by
  obtain ⟨a, fd, F⟩ := c.def_ i e
  exact ⟨_, fd, ⟨FunD.toFun F, At.glo X G a⟩⟩
theorem SaysP.meth (c : SaysP fn ex K) (i : Nat) (e : fn[i]? = some ⟨.m x m, m, qual, st, []⟩) : ∃ f fd, GotM K (ga K x) m qual st f fd := by
  obtain ⟨a, fd, F⟩ := c.def_ i e
  exact ⟨_, fd, ⟨FunD.toFun F, At.own a⟩⟩
theorem SaysP.prop (c : SaysP fn ex K) (i : Nat) (e : fn[i]? = some ⟨.p x m, m, qual, st, []⟩) : ∃ p f fd, GotP K (ga K x) m qual st p f fd := by
  obtain ⟨a, fd, F⟩ := c.def_ i e
  exact ⟨_, _, fd, ⟨FunD.toFun F, At.prop a⟩⟩
end
section
variable {Z : Cz} {CX : CXT} {k : Nat} {C : Addr} {ps : List Str} {sp : Sp} {x m qual : Str} {st : Stmt} {p f : Addr} {fd : FuncData}
theorem Got.cal (g : Got Z.K Z.mg x st f fd) (G : Z.ok CX k f fd ps sp) (b : Binds Z.K fd ps []) : Cal Z CX k x ps [] sp := ⟨f, fd, [], G, g.m, g.F.kp, b, .nil⟩
theorem GotM.calS (g : GotM Z.K C m qual st f fd) (G : Z.ok CX k f fd ps sp) (b : Binds Z.K fd ps []) : CalS Z CX k C m ps sp := ⟨f, fd, G, g.o, b⟩
theorem GotM.calM (g : GotM Z.K C m qual st f fd) (cl : Cls Z.K C) (G : Z.ok CX k f fd ps sp) (b : Binds Z.K fd ps []) : CalM Z CX k C m ps [] sp := ⟨f, fd, [], G, ⟨g.o.fn, g.o.isf, g.F.kp⟩, cl, b, .nil⟩
theorem GotP.calP (g : GotP Z.K C m qual st p f fd) (cl : Cls Z.K C) (G : Z.ok CX k f fd ["self"] sp) (b : Binds Z.K fd ["self"] []) : CalP Z CX k C m sp := ⟨p, f, fd, [], G, g.o, cl, b, .nil⟩
end
/-! ### Bools of further facts -/
def numB (K : Frag) (C : Addr) (nm : String) : Bool := findB K C (PySem.dunder nm) && (findB K C (dunderR nm) && ((findIn K (.type "int") (PySem.dunder nm)).isSome && ((findIn K (.type "int") (dunderR nm)).isSome && (decide (subIn K (.type "int") (.ref C) = some false) && decide (subIn K (.ref C) (.type "int") = some false)))))
theorem numB_ok {K : Frag} {C : Addr} {nm : String} (c : numB K C nm = true) : NumF K C nm := by
  obtain ⟨c1, c⟩ := ba c
  obtain ⟨c2, c⟩ := ba c
  obtain ⟨c3, c⟩ := ba c
  obtain ⟨c4, c⟩ := ba c
  obtain ⟨c5, c6⟩ := ba c
  exact ⟨⟨_, eqO_ok c1⟩, ⟨_, eqO_ok c2⟩, Option.isSome_iff_exists.mp c3, Option.isSome_iff_exists.mp c4, of_decide_eq_true c5, of_decide_eq_true c6⟩
def freeB (K : Frag) (xs : List Str) : Bool := xs.all fun x => eqO (nsIn K mainGlobals x) (some none)
theorem freeB_ok {K : Frag} {h : Heap} {mg : Str → Option Value} (X : K.In h) (G : h.Ns mainGlobals mg) {xs : List Str} (c : freeB K xs = true) {x : Str} (hx : x ∈ xs) : mg x = none := mg_none_of X G (eqO_ok (List.all_eq_true.mp c x hx))
end Ps

/-! Static methods called by the class's name. -/
namespace Ps
open PySem PySem.Spec PyProof.Rows PySem.W L2 He

/-- C.m is a static method: its record at p, its def at g -/
structure StM (K : Frag) (C : Addr) (m : Str) (p g : Addr) : Prop where
  rd : readsIn K C (.type "type") = true
  ga : specialIn K (.ref C) "__getattribute__" = some (some (.builtin "type.__getattribute__"))
  at_ : findCls K (.ref C) (.type "type") m = some (.get (.builtin "staticmethod.__get__") (.ref p) .none (.ref C))
  rc : ∃ rest, recIn K p "staticmethod" = some (.ref g :: rest)
  kp : keepIn K (.ref g) = true
def CalT (Z : Cz) (CX : CXT) (k : Nat) (C : Addr) (m : Str) (sp : Sp) : Prop := ∃ p g, FnR Z.P Z.w Z.K Z.mg Z.base CX k g sp ∧ StM Z.K C m p g
def tSMeth (C : Addr) (sp : Sp) (E : XK) (ta : TE) (t : TA) : TE := fun σ H Q => ta σ H fun x H1 => x = .ref C ∧ t σ H1 fun vs H2 => sp vs H2 Q E
section
variable {Z : Cz} {X : Cx} {CX : CXT} {k : Nat} {C : Addr} {sp : Sp} {E : XK} {o e : Expr} {es : List Expr} {m : Str} {pos apos : Pos} {ta : TE} {t : TA} {pl : Sem Bool}
theorem getsm_ok {p g : Addr} {pins : List (Addr × Obj)} {σ : L2.St} {H : Hp} {s : Shared} {A : Around} {Er : Value → Shared → Prop} {Q : Value × List Value → Shared → Prop} (I : L2.Inv X pins σ H s) (r : StM X.K C m p g)
    (h : ∀ s', L2.Inv X pins σ H s' → Q (.ref g, []) s') : wpAny (model X.prog X.w) A (getMethod (.ref C) m pl) Q Er s := by
  obtain ⟨rest, hp⟩ := r.rc
  refine method_cls I.kIn r.ga ?_
  refine cls_bind I.kIn r.rd r.at_ ?_
  refine wpAny_call (sm_get (s := { s with toks := s.toks + 1 }) I.kIn hp (handed_on rfl ?_))
  exact h _ (I.tok _)
theorem pe_calT (c : CalT Z CX k C m sp) (hr : Room k X.A) (hx : Passes CX X E) (he : PE X o ta) (ha : PA X (e :: es) t) (z : InZ Z X := by exact ⟨rfl, rfl, rfl, rfl, rfl⟩)
    (hst : starEach (e :: es) X.env = (false, eval e X.env) :: starEach es X.env := by rfl) (hpl : (backTo pos (starEach es X.env)).any (·.1) = false := by rfl)
    (ht : eval (.Call (.Attribute o m apos) (e :: es) [] pos) X.env = (do
      let ov ← eval o X.env
      standAt apos.atName
      let (f, first) ← holding [ov] (getMethod ov m pl)
      callWith pos f first (backTo pos (starEach (e :: es) X.env)) (backToKw pos (keywordEach [] X.env))) := by rfl) :
    PE X (.Call (.Attribute o m apos) (e :: es) [] pos) (tSMeth C sp E ta t) := by
  obtain ⟨p, g, F, r⟩ := c
  obtain ⟨e1, e2, e3, e4, e5⟩ := z
  have F' : FnR X.prog X.w X.K X.mg X.base CX k g sp := by rw [e1, e2, e3, e4, e5]; exact F
  rw [← e3] at r
  refine ⟨fun pins s σ H Q I h => ?_⟩
  refine methodCall_KW (pl := pl) (thn (he.run pins s σ H _ I h) fun u s1 ⟨x, H1, I1, rx, ex, q⟩ => ?_) ht
  subst ex
  obtain rfl : u = Value.ref C := rx
  refine getsm_ok I1 r fun s2 I2 => ?_
  refine callWith_K (h₀ := X.base) I2.ok.mod.kin r.kp (thn (ha.run pos _ s2 σ H1 _ I2 q) fun us s3 ⟨vs, H2, I3, rv, q2⟩ => ⟨I3.kIn, ?_⟩) hst hpl
  exact wpAny_call (run_fnR F' hr hx I3 rv q2)
theorem pe_calT0 (c : CalT Z CX k C m sp) (hr : Room k X.A) (hx : Passes CX X E) (he : PE X o ta) (z : InZ Z X := by exact ⟨rfl, rfl, rfl, rfl, rfl⟩)
    (ht : eval (.Call (.Attribute o m apos) [] [] pos) X.env = (do
      let ov ← eval o X.env
      standAt apos.atName
      let (f, first) ← holding [ov] (getMethod ov m pl)
      callWith pos f first (backTo pos (starEach [] X.env)) (backToKw pos (keywordEach [] X.env))) := by rfl) :
    PE X (.Call (.Attribute o m apos) [] [] pos) (tSMeth C sp E ta tNil) := by
  obtain ⟨p, g, F, r⟩ := c
  obtain ⟨e1, e2, e3, e4, e5⟩ := z
  have F' : FnR X.prog X.w X.K X.mg X.base CX k g sp := by rw [e1, e2, e3, e4, e5]; exact F
  rw [← e3] at r
  refine ⟨fun pins s σ H Q I h => ?_⟩
  refine methodCall_KW (pl := pl) (thn (he.run pins s σ H _ I h) fun u s1 ⟨x, H1, I1, rx, ex, q⟩ => ?_) ht
  subst ex
  obtain rfl : u = Value.ref C := rx
  refine getsm_ok I1 r fun s2 I2 => ?_
  refine callWith_K0 I2.kIn r.kp ?_
  exact wpAny_call (run_fnR F' hr hx I2 (us := []) (vs := []) .nil q)
end
/-! behind the top -/
def statB (K : Frag) (x m : Str) : Bool := readsIn K (ga K x) (.type "type") && (eqO (specialIn K (.ref (ga K x)) "__getattribute__") (some (some (.builtin "type.__getattribute__"))) &&
  (match findCls K (.ref (ga K x)) (.type "type") m with
    | some (.get (.builtin b) (.ref p) .none (.ref c)) => decide (b = "staticmethod.__get__") && (decide (p = ma K (ga K x) m) && decide (c = ga K x))
    | _ => false))
theorem statB_ok {K : Frag} {x m : Str} (c : statB K x m = true) (a : (At.sm x m).ok K = true) (k : keepIn K (.ref ((At.sm x m).a K)) = true) : StM K (ga K x) m (ma K (ga K x) m) ((At.sm x m).a K) := by
  obtain ⟨c1, c⟩ := ba c
  obtain ⟨c2, c3⟩ := ba c
  obtain ⟨a1, a2⟩ := ba a
  refine ⟨c1, eqO_ok c2, ?_, hdB_ok a2, k⟩
  split at c3
  · rename_i b p c' e
    obtain ⟨d1, d⟩ := ba c3
    obtain ⟨d2, d3⟩ := ba d
    rw [e, of_decide_eq_true d1, of_decide_eq_true d2, of_decide_eq_true d3]
  · cases c3
theorem SaysP.stat {fn : List DefP} {ex : Frag → Bool} {K : Frag} {x m qual : Str} {st : Stmt} (c : SaysP fn ex K) (i : Nat) (e : fn[i]? = some ⟨.sm x m, m, qual, st, []⟩) (h : statB K x m = true) : ∃ p g fd, StM K (ga K x) m p g ∧ Fun K m qual st g fd := by
  obtain ⟨a, fd, F⟩ := c.def_ i e
  exact ⟨_, _, fd, statB_ok h a F.kp, FunD.toFun F⟩
/-- def m(*v) -/
theorem Fun.star0 {Z : Cz} {x qual pv : Str} {st : Stmt} {f : Addr} {fd : FuncData} {N : List Str} {k : Nat} {sp : Sp} {CX : CXT} (F : Fun Z.K x qual st f fd) (S : FnScope N [pv] (defScope st)) (hCX : StX.CXUp CX)
    (h0 : ∀ (kV doc pm : Value) (an : Option Addr) (cdv ct : Value), bindArgs (fnOf x qual (defArgs st) (defBody st) (defScope st) .none kV doc pm an cdv ct) ⟨[], []⟩ = (newTuple [] >>= fun t => pure [(pv, t)]))
    (h1 : ∀ (kV doc pm : Value) (an : Option Addr) (cdv ct : Value) (r : Value) (rs : List Value), bindArgs (fnOf x qual (defArgs st) (defBody st) (defScope st) .none kV doc pm an cdv ct) ⟨r :: rs, []⟩ = (newTuple (r :: rs) >>= fun t => pure [(pv, t)]))
    (hbody : ∀ (cdv : Value) (A : Around) (outer : List Env) (s : Shared) (H : Hp) (vs : List V) (Q : VK) (E : XK), Room k (A.deeper (envOfC qual (defScope st) s.heap.objs.size f cdv)) → sp vs H Q E →
      ∃ t, PSs (cxOf CX Z.P Z.w Z.K Z.mg Z.base N qual (defScope st) f cdv A outer s H E) (defBody st) t ∧ t { nx := fun _ H' => Q .non H', rt := Q } (start N vs) H) :
    FnR Z.P Z.w Z.K Z.mg Z.base CX (k + 1) f (fun vs H Q E => vs.length ≤ sizeLine ∧ ∀ p, H p = none → sp [V.ref p] (upd H p (.tup vs)) Q E) := by
  obtain ⟨oc, od, kV, doc, pm, an, cdv, ct, osl, rfl, lk, hcd⟩ := F.ex
  have G := StX.fn_star (ps := []) (pv := pv) (sp := sp) (k := k) (P := Z.P) (w := Z.w) (mg := Z.mg) (base := Z.base) lk hcd S hCX (fun us rest hl => match us, rest, hl with | [], [], _ => h0 kV doc pm an cdv ct | [], r :: rs, _ => h1 kV doc pm an cdv ct r rs) (fun A outer s H vs Q E hr hsp => hbody cdv A outer s H vs Q E hr hsp)
  exact G.imp fun vs H Q E ⟨hl, h⟩ => ⟨[], vs, rfl, rfl, hl, h⟩
end Ps

/-! Common words of the laws about shares. -/
namespace Ps
open PySem PySem.Spec PyProof.Rows PySem.W L2

/-- two rules of one operator -/
theorem op_both {X : Cx} {f : Value → Value → Sem Value} {r1 r2 : R2} (h1 : OpR X f r1) (h2 : OpR X f r2) : OpR X f (fun x y H Q => r1 x y H Q ∨ r2 x y H Q) := by
  intro pins s σ H x y v u Q I rx ry h
  rcases h with h | h
  · exact h1 pins s σ H x y v u Q I rx ry h
  · exact h2 pins s σ H x y v u Q I rx ry h
/-- a test, with a word behind it -/
def tCutT (t : TT) : TT := fun σ H Q => ∃ Mid : Bool → Hp → Prop, t σ H Mid ∧ ∀ b H', Mid b H' → Q b H'
theorem pt_cut {X : Cx} {e : Expr} {t : TT} (h : PT X e t) : PT X e (tCutT t) := by
  refine ⟨fun pins s σ H Q I q => ?_⟩
  obtain ⟨Mid, hm, hq⟩ := q
  exact thn (h.run pins s σ H Mid I hm) fun d s1 ⟨H1, I1, q1⟩ => ⟨H1, I1, hq _ _ q1⟩

theorem mk_shI {C x dx : Addr} {H : Hp} {Q2 : VK} {E : XK} {t u : Int} (hu : u ≠ 0) (hb : u.natAbs < 2 ^ 9000) (hx : H x = none) (hdx : H dx = none) (hne : dx ≠ x) (k : ∀ H', Same H H' → Sh C H' (.ref x) (low t u) → Q2 .non H') :
    spShInit C [.ref x, .int t, .int u] (upd (upd H dx (.own x)) x (.ins C dx [])) Q2 E := by
  refine ⟨x, dx, t, u, rfl, upd_same, hu, hb, fun H' h1 h2 => ?_⟩
  refine k H' (fun b o e => ?_) ⟨x, dx, rfl, h2⟩
  rw [h1 b (ne_of_none e hx), upd_ne (ne_of_none e hx), upd_ne (ne_of_none e hdx)]
  exact e
def pair (q : Int × Int) : List V := [.int q.1, .int q.2]
/-- a new list -/
def NewL (H : Hp) (Q : VK) (xs : List V) : Prop := ∀ p H', Same H H' → H p = none → H' p = some (.lst xs) → Q (.ref p) H'
theorem NewL.here {H H1 : Hp} {Q : VK} {xs : List V} (k : NewL H Q xs) (e : Same H H1) {p : Addr} (hp : H1 p = none) : Q (.ref p) (upd H1 p (.lst xs)) :=
  k p _ (e.trans (Same.upd hp)) (e.free hp) upd_same
theorem pair_dp {K : Frag} {H : Hp} {p : Addr} {q : Int × Int} (h : H p = some (.lst (pair q))) : Dp K H (.ref p) (.list [.int q.1, .int q.2]) := .lst (SqL.of h) (.cons (.int _) (.cons (.int _) .nil))

theorem gAdd_comm (q r : Int × Int) : gAdd q r = gAdd r q := by
  unfold gAdd
  rw [Int.add_comm, Int.mul_comm q.2]
theorem gMul_comm (q r : Int × Int) : gMul q r = gMul r q := by
  unfold gMul
  rw [Int.mul_comm q.1, Int.mul_comm q.2]
theorem Sz.low {n : Nat} {q : Int × Int} (h : Sz n q) : Sz n (Ps.low q.1 q.2) :=
  ⟨Int.ne_of_gt (low_pos h.ne), Nat.lt_of_le_of_lt (low_le1 h.ne) h.t, Nat.lt_of_le_of_lt (low_le2 h.ne) h.u⟩
theorem vne {i j : Int} (h : i ≠ j) : ¬ V.int i = V.int j := fun z => h (V.int.inj z)

theorem Sz.of_low {n : Nat} {t u : Int} (hu : u ≠ 0) (h1 : t.natAbs < 2 ^ n) (h2 : u.natAbs < 2 ^ n) : Sz n (Ps.low t u) :=
  ⟨Int.ne_of_gt (low_pos hu), Nat.lt_of_le_of_lt (low_le1 hu) h1, Nat.lt_of_le_of_lt (low_le2 hu) h2⟩
theorem add_lt {i j : Int} {n : Nat} (hi : i.natAbs < 2 ^ n) (hj : j.natAbs < 2 ^ n) : (i + j).natAbs < 2 ^ (n + 1) := by
  rw [Nat.pow_succ]
  omega
theorem Sz.add {n : Nat} {q r : Int × Int} (hq : Sz n q) (hr : Sz n r) : Sz (n + n + 1) (gAdd q r) :=
  Sz.of_low (Int.mul_ne_zero hq.ne hr.ne) (add_lt (wide_lt hq.t hr.u) (wide_lt hr.t hq.u)) (lt_up (wide_lt hq.u hr.u) (by omega))
theorem Sz.mul {n : Nat} {q r : Int × Int} (hq : Sz n q) (hr : Sz n r) : Sz (n + n) (gMul q r) :=
  Sz.of_low (Int.mul_ne_zero hq.ne hr.ne) (wide_lt hq.t hr.t) (wide_lt hq.u hr.u)
theorem Sz.by_ {n : Nat} {q r : Int × Int} (hq : Sz n q) (hr : Sz n r) (hn : r.1 ≠ 0) : Sz (n + n) (gBy q r) :=
  Sz.of_low (Int.mul_ne_zero hq.ne hn) (wide_lt hq.t hr.u) (wide_lt hq.u hr.t)
theorem shF_no (t u : Int) (m : Str) (h1 : (m == ("own_top" : Str)) = false) (h2 : (m == ("own_under" : Str)) = false) : (shF t u).lookup m = none := by
  unfold shF
  rw [List.lookup_cons, h1, List.lookup_cons, h2]
  rfl

theorem eqv_pair (q : Int × Int) : PyData.eqv (.list [.int q.1, .int q.2]) (.list [.int q.1, .int q.2]) = true := SeqAt.eqv_refl _ rfl
/-- all but p is as it was -/
def Keep (p : Addr) (H H' : Hp) : Prop := ∀ b, b ≠ p → ∀ o, H b = some o → H' b = some o
theorem Keep.refl (p : Addr) (H : Hp) : Keep p H H := fun _ _ _ h => h
theorem Keep.trans {p : Addr} {H H1 H2 : Hp} (a : Keep p H H1) (b : Keep p H1 H2) : Keep p H H2 := fun c hc o h => b c hc o (a c hc o h)
theorem Keep.of_same {p : Addr} {H H1 : Hp} (a : Same H H1) : Keep p H H1 := fun c hc o h => a c o h
theorem Keep.of_eq {p : Addr} {H H1 : Hp} (a : ∀ b, b ≠ p → H1 b = H b) : Keep p H H1 := fun c hc o h => by rw [a c hc]; exact h
theorem Keep.same {p : Addr} {H0 H H1 : Hp} (e : Same H0 H) (hp : H0 p = none) (a : Keep p H H1) : Same H0 H1 := fun b o h => a b (ne_of_none h hp) o (e b o h)
theorem Pool.new {H : Hp} {p q l : Addr} {ms : List Int} {i : Nat} {o : HO} (P : Pool H p q ms i) (hl : H l = none) : Pool (upd H l o) p q ms i :=
  ⟨by rw [upd_ne (ne_of_none P.at_ hl)]; exact P.at_, by rw [upd_ne (ne_of_none P.nums hl)]; exact P.nums, P.len, P.few⟩
theorem Pool.put {H : Hp} {p q l : Addr} {ms : List Int} {i : Nat} {o : HO} (P : Pool H p q ms i) (h1 : l ≠ p) (h2 : l ≠ q) : Pool (upd H l o) p q ms i :=
  ⟨by rw [upd_ne h1.symm]; exact P.at_, by rw [upd_ne h2.symm]; exact P.nums, P.len, P.few⟩
theorem Keep.put {p D : Addr} {H H1 : Hp} {o : HO} (k : Keep p H H1) (hD : H D = none) : Keep p H (upd H1 D o) := fun b hb u h => by
  rw [upd_ne (ne_of_none h hD)]
  exact k b hb u h
def spLaw (K : Frag) : Sp := fun vs H Q _ => ∃ (a : Addr) (ns : List Int), vs = [.ref a] ∧ SqL K H a (ns.map V.int) ∧ ns.length ≤ 63 ∧ ∀ H', Q (.bl true) H'
theorem small4000 {i : Int} (h : i.natAbs ≤ 1000) : i.natAbs < 2 ^ 4000 := lt_up (m := 10) (by omega) (by decide)
theorem two_of {ts : List Int} (h : ts.length = 2) : ∃ a b, ts = [a, b] := by
  match ts, h with
  | [a, b], _ => exact ⟨a, b, rfl⟩

/-- two lists, item by item -/
def Al {α : Type} (R : V → α → Prop) (vs : List V) (qs : List α) : Prop := vs.length = qs.length ∧ ∀ (i : Nat) (v : V) (q : α), vs[i]? = some v → qs[i]? = some q → R v q
section
variable {α : Type} {R S : V → α → Prop} {vs : List V} {qs : List α} {v : V} {q : α}
theorem Al.nil : Al R [] [] := ⟨rfl, fun i v q h => by simp at h⟩
theorem Al.imp (h : Al R vs qs) (k : ∀ v q, R v q → S v q) : Al S vs qs := ⟨h.1, fun i v q a b => k v q (h.2 i v q a b)⟩
theorem Al.snoc (h : Al R vs qs) (hv : R v q) : Al R (vs ++ [v]) (qs ++ [q]) := by
  refine ⟨by rw [List.length_append, List.length_append, h.1]; rfl, fun i a b ha hb => ?_⟩
  by_cases hi : i < vs.length
  · rw [List.getElem?_append_left hi] at ha
    rw [List.getElem?_append_left (by rw [← h.1]; exact hi)] at hb
    exact h.2 i a b ha hb
  · rw [List.getElem?_append_right (by omega)] at ha
    rw [List.getElem?_append_right (by rw [← h.1]; omega), ← h.1] at hb
    cases e : i - vs.length with
    | zero =>
      rw [e] at ha hb
      simp at ha hb
      subst ha; subst hb
      exact hv
    | succ j =>
      rw [e] at ha
      simp at ha
theorem Al.get (h : Al R vs qs) {i : Nat} (hv : vs[i]? = some v) : ∃ q, qs[i]? = some q ∧ R v q := by
  have hi : i < qs.length := by
    rw [← h.1]
    exact (List.getElem?_eq_some_iff.mp hv).1
  exact ⟨qs[i], List.getElem?_eq_getElem hi, h.2 i v _ hv (List.getElem?_eq_getElem hi)⟩
theorem Al.cons (hv : R v q) (h : Al R vs qs) : Al R (v :: vs) (q :: qs) := by
  refine ⟨by simp [h.1], fun i a b ha hb => ?_⟩
  cases i with
  | zero =>
    simp at ha hb
    subst ha; subst hb
    exact hv
  | succ j =>
    simp at ha hb
    exact h.2 j a b ha hb
theorem Al.uncons (h : Al R (v :: vs) (q :: qs)) : R v q ∧ Al R vs qs :=
  ⟨h.2 0 v q rfl rfl, by have := h.1; simpa using this, fun i a b ha hb => h.2 (i + 1) a b ha hb⟩
end
theorem take_more' {α : Type} {l : List α} {i : Nat} {x : α} (h : l[i]? = some x) : l.take (i + 1) = l.take i ++ [x] := by
  rw [List.take_succ, h]
  rfl
theorem Sz.add' {m n : Nat} {q r : Int × Int} (hq : Sz m q) (hr : Sz n r) : Sz (m + n + 1) (gAdd q r) :=
  Sz.of_low (Int.mul_ne_zero hq.ne hr.ne) (add_lt (wide_lt hq.t hr.u) (by rw [Nat.add_comm m n]; exact wide_lt hr.t hq.u)) (lt_up (wide_lt hq.u hr.u) (by omega))
theorem Sz.mul' {m n : Nat} {q r : Int × Int} (hq : Sz m q) (hr : Sz n r) : Sz (m + n) (gMul q r) :=
  Sz.of_low (Int.mul_ne_zero hq.ne hr.ne) (wide_lt hq.t hr.t) (wide_lt hq.u hr.u)
theorem Sz.sub' {m n : Nat} {q r : Int × Int} (hq : Sz m q) (hr : Sz n r) : Sz (m + n + 1) (gSub q r) := hq.add' hr.neg
end Ps

/-! Own errors over PlanError(Exception) whose __init__ keeps one field: made, raised, caught, read. -/
namespace Ps
open PySem PySem.W PySem.Calls PyProof.Rows PySem.HandSPX He

def xA (fl : Str) (p1 p2 : Pos) : Arguments := { posonlyargs := [], args := [{ arg := "self", annotation := none, pos := p1 }, { arg := fl, annotation := none, pos := p2 }], vararg := none, kwonlyargs := [], kw_defaults := [], kwarg := none, defaults := [] }
def xB (fl : Str) (q1 q2 q3 q4 : Pos) : List Stmt := [.Assign [.Attribute (.Name "self" q1) fl q2] (.Name fl q3) q4]
def xS (fl : Str) : Scope := { kind := .function, names := [(PySem.Str.ofString "self", .local), (fl, .local)], isGenerator := false, isCoroutine := false, more := [] }
/-- what the written part says of the error's class at C (its base at P), and of its __init__, at fI -/
structure ExT (K : Frag) (mg : Str → Option Value) (x fl qual : Str) (C P fI : Addr) : Prop where
  gC : mg x = some (.ref C)
  cls : ∃ nm q N bs sn sub ab col dd k0 k1 k2 k3 k5, K.lookup C = some (excClassObj nm q C N bs (.ref P :: ESX.exTail) true sn sub ab col dd k0 k1 k2 k3 k5 "Exception.__new__")
  sa : findIn K (.ref C) "__setattr__" = some (some (.builtin "object.__setattr__"))
  noN : findIn K (.ref C) fl = some none
  iC : findIn K (.ref C) "__init__" = some (some (.ref fI))
  tC : typeIn K (.ref fI) = some (.type "function")
  kC : keepIn K (.ref C) = true
  tyC : typeIn K (.ref C) = some (.type "type")
  xf : L2.XfC K C
  fn : ∃ (oc : Value) (od : Option Addr) (kV doc pm : Value) (an : Option Addr) (cdv ct : Value) (osl : Array (Option Value)) (p1 p2 q1 q2 q3 q4 : Pos),
    K.lookup fI = some ⟨oc, od, .func (fnOf "__init__" qual (xA fl p1 p2) (xB fl q1 q2 q3 q4) (xS fl) .none kV doc pm an cdv ct), osl⟩ ∧ codeIn K cdv qual = true
theorem one_size (v : Value) : [v].length ≤ sizeLine := by
  rw [sizeLine_eq]
  exact (by decide : 1 ≤ 16777216)
/-! ### self.f = f on a fresh error -/
section
open Builtin Builtin.ObjectAttr
variable {prog : Program} {w : World} {A : Around} {E : Value → Shared → Prop} {R : Result → Shared → Prop} {hp : Heap} {g : Array GenState} {d : Drawn} {t : Nat} {os : OsState}
theorem tailP_has {C P : Addr} (X : String) (hX : ESX.exTail.contains (.type X) = true) : (Value.ref C :: .ref P :: ESX.exTail).contains (.type X) = true := by
  rw [List.contains_cons, List.contains_cons, hX, Bool.or_true, Bool.or_true]
theorem tailP_eq {P : Addr} (X : String) : (Value.ref P :: ESX.exTail).contains (.type X) = ESX.exTail.contains (.type X) := by
  rw [List.contains_cons]
  rfl
theorem osa_P {K : Frag} {name : Str} {tk : Tok} {v : Value} {x C P : Addr} {fv : Array Value} {cd : ClassData}
    (X : K.In hp) (hx : hp.get? x = some { cls := .ref C, data := .fields fv }) (hcd : clsIn K C = some cd) (hm : cd.mro = .ref C :: .ref P :: ESX.exTail) (hh : cd.hasDict = true) (ha : findIn K (.ref C) name = some none)
    (hq : ∀ h' tk' dx, (∀ b o, b ≠ x → hp.get? b = some o → h'.get? b = some o) → hp.objs.size ≤ dx → dx ≠ x → h'.get? x = some { cls := .ref C, dict := some dx, data := .fields fv } →
      h'.Ns1 dx (fun y => if y = name then some v else none) → R (.ok (.ret .none)) ⟨h', g, d, tk', os⟩) :
    codeAny (model prog w) A (.call (.builtin "object.__setattr__") ⟨[.ref x, .str name tk, v], []⟩) R ⟨hp, g, d, t, os⟩ := by
  have I : InstAt hp x { cls := .ref C, data := .fields fv } C none := ⟨hx, rfl, rfl, trivial⟩
  have hxs : x ≠ hp.objs.size := Nat.ne_of_lt (Heap.lt_size hx)
  have SF := F.store_object
  have mro : mroIn K C (.type "object") = some true := by
    unfold mroIn
    rw [hcd, Option.bind_some, hm, if_neg (show ¬ (List.isEmpty (Value.ref C :: .ref P :: ESX.exTail) = true) from Bool.false_ne_true), tailP_has "object" (by decide +kernel)]
  have sub : Looks (model prog w) hp (isInstance (.ref x) (.type "object")) true := I.type.andThen (looks_mroIn X mro)
  refine codeAny_call_builtin SF.slot.plain SF.entry (@check_slot (model prog w) _ _ ⟨hp, g, d, t, os⟩ "object.__setattr__" "object" "__setattr__" (.ref x) [.str name tk, v] [] _ SF.kind SF.split sub (SF.args (.ref x) (.str name tk) v) ?_)
  have hmr : Looks (model prog w) hp (mroOf (.ref C)) cd.mro := (looks_clsIn X hcd).andThen .now
  have L3 : Looks (model prog w) hp (storeTaker? none) none := .now
  have hpass : refuseLoop (.ref x) "__setattr__" cd.mro = pure () := by
    rw [hm, refuseLoop_ref, refuseLoop_ref]
    exact F.store_Exception.passes _
  rw [osa_eq, refuse_eq]
  refine wpAny_bind (wpAny_bind (I.type.at (wpAny_bind (hmr.at ?_))))
  rw [hpass]
  refine wpAny_pure (wpAny_bind (I.type.at (wpAny_bind ((looks_findIn X ha).at (wpAny_bind (L3.at ?_))))))
  show wpAny _ _ (storeInOwnDict (.ref x) (.ref C) (.str name tk) name v false) _ _ _
  have hcls : Looks (model prog w) hp (classData C) cd := looks_clsIn X hcd
  obtain ⟨nm, bs, mro, ns, qn, hd, sn, sb, ab, col, del⟩ := cd
  dsimp only at hh
  subst hh
  unfold storeInOwnDict ownDictForStores
  repeat (first | with_reducible refine HandSPX.store_in_new ?_ ?_ | with_reducible refine wpAny_loadPart_at hx ?_ | with_reducible refine hcls.at ?_ | wp_step)
  · exact ⟨_, #[], _, (Heap.get?_update_ne _ _ _ _ hxs.symm).trans (Heap.get?_push_at rfl rfl), rfl, fun e he => absurd he (by simp), fun _ => rfl⟩
  · intro h' tk' hn' hs
    have hx₁ : (hp.push { cls := .type "dict", data := .dict #[] }).get? x = some { cls := .ref C, data := .fields fv } := Heap.get?_push_of_some _ hx
    refine hq h' tk' hp.objs.size (fun b o hb ho => ?_) (Nat.le_refl _) hxs.symm ?_ hn'
    · exact (hs.2 b (Nat.ne_of_lt (Heap.lt_size ho))).trans ((Heap.get?_update_ne _ _ _ _ hb).trans (Heap.get?_push_of_some _ ho))
    · exact (hs.2 x hxs).trans (Heap.get?_update_self _ hx₁ rfl)
end
theorem ldX {M : Model} {s : Shared} {name : Str} {scope : Scope} {L a : Addr} {cd : Value} {m : Str → Option Value} {x : Str} {pos : Pos} {v : Value} {Q : Value → Shared → Prop} {A : Around} {E : Value → Shared → Prop} (hn : s.heap.Ns L m) (hv : m x = some v) (h : Q v s)
    (hl : (envOfC name scope L a cd).kindOf x = some .local) (hd : (x == ("__debug__" : Str)) = false) (hk : scope.kind = .function := by rfl) :
    wpAny M A (eval (.Name x pos) (envOfC name scope L a cd)) Q E s := wpAny_Name (wpAny_loadName_local hk hl hn hv h) hd
/-- what __init__ leaves of a fresh error at x -/
structure XInit (h h' : Heap) (x C dx t1 : Addr) (fl : Str) (v : Value) : Prop where
  keep : ∀ b o, b ≠ x → h.get? b = some o → h'.get? b = some o
  obj : h'.get? x = some { cls := .ref C, dict := some dx, data := .fields #[.ref t1, .none, .none, .none, .bool false, .none] }
  dbig : h.objs.size ≤ dx
  dne : dx ≠ x
  ns : h'.Ns1 dx (fun y => if y = fl then some v else none)
/-- a made error -/
structure XMade (h h' : Heap) (e C d : Addr) (fl : Str) (v : Value) : Prop where
  keep : ∀ b o, h.get? b = some o → h'.get? b = some o
  new : h.objs.size ≤ e
  obj : ∃ t1, h'.get? e = some { cls := .ref C, dict := some d, data := .fields #[.ref t1, .none, .none, .none, .bool false, .none] }
  dbig : h.objs.size ≤ d
  dne : d ≠ e
  ns : h'.Ns1 d (fun y => if y = fl then some v else none)
/-- a field's name that is no special one -/
structure FlOk (fl : Str) : Prop where
  bind : ∀ (qual : Str) (p1 p2 : Pos) (b : List Stmt) (sc : Scope) (kV doc pm : Value) (an : Option Addr) (cdv ct a v : Value), bindArgs (fnOf "__init__" qual (xA fl p1 p2) b sc .none kV doc pm an cdv ct) ⟨[a, v], []⟩ = pure [(("self" : Str), a), (fl, v)]
  all_ : ∀ a v : Value, ([(("self" : Str), a), (fl, v)].all fun y => List.lookup y.fst (xS fl).names == some NameKind.local || List.lookup y.fst (xS fl).names == some NameKind.cell) = true
  bf : ∀ (qual : Str) (L f : Addr) (cdv a v : Value), bindL (envOfC qual (xS fl) L f cdv).kindOf [(("self" : Str), a), (fl, v)] (fun _ => none) fl = some v
  bs : ∀ (qual : Str) (L f : Addr) (cdv a v : Value), bindL (envOfC qual (xS fl) L f cdv).kindOf [(("self" : Str), a), (fl, v)] (fun _ => none) "self" = some a
  ks : ∀ (qual : Str) (L f : Addr) (cdv : Value), (envOfC qual (xS fl) L f cdv).kindOf "self" = some .local
  kf : ∀ (qual : Str) (L f : Addr) (cdv : Value), (envOfC qual (xS fl) L f cdv).kindOf fl = some .local
  dbg : (fl == ("__debug__" : Str)) = false
theorem fl_value : FlOk "value" := ⟨fun _ _ _ _ _ _ _ _ _ _ _ _ _ => rfl, fun _ _ => rfl, fun _ _ _ _ _ _ => rfl, fun _ _ _ _ _ _ => rfl, fun _ _ _ _ => rfl, fun _ _ _ _ => rfl, by decide⟩
section
variable {prog : Program} {w : World} {A : Around} {E : Value → Shared → Prop} {R : Result → Shared → Prop} {s : Shared} {K : Frag} {mg : Str → Option Value} {x0 fl qual : Str} {C P fI : Addr}
theorem x_init (T : ExT K mg x0 fl qual C P fI) (hf : FlOk fl) {x t0 : Addr} {v : Value} (X : K.In s.heap) (hlim : s.heap.NoLimit) (hx : s.heap.get? x = some (excO C t0)) (hroom : A.depth < recursionLimit)
    (hq : ∀ h' tk dx, XInit s.heap h' x C dx t0 fl v → R (.ok (.ret .none)) { s with heap := h', toks := tk }) :
    codeAny (model prog w) A (.call (.ref fI) ⟨[.ref x, v], []⟩) R s := by
  obtain ⟨oc, od, kV, doc, pm, an, cdv, ct, osl, p1, p2, q1, q2, q3, q4, ho, hcd⟩ := T.fn
  obtain ⟨nm, q, N, bs, sn, sub, ab, col, dd, k0, k1, k2, k3, k5, hC⟩ := T.cls
  have hcl : clsIn K C = some { name := nm, bases := bs, mro := .ref C :: .ref P :: ESX.exTail, ns := N, qualname := q, hasDict := true, slotNames := sn, subclasses := sub, abstract := ab, collection := col, hasDel := false } := by unfold clsIn; rw [hC] <;> rfl
  refine Att.call_fn (binds := [("self", .ref x), (fl, v)]) X hlim ho hcd hroom (BindsTo.of_eq (hf.bind _ _ _ _ _ _ _ _ _ _ _ _ _)) (hf.all_ _ _) (fun s₁ IC => ?_) rfl rfl rfl
  obtain ⟨h₁, tk₁, rfl⟩ := IC.toInCall.same
  have k : ∀ b o, s.heap.get? b = some o → h₁.get? b = some o := IC.toInCall.keep
  have hn := IC.toInCall.ns
  have hxL : s.heap.objs.size ≠ x := Nat.ne_of_gt (Heap.lt_size hx)
  have X₁ : K.In h₁ := X.keeps k
  have hx₁ := k _ _ hx
  show wpAny _ _ (execs _ _) _ _ _
  refine wpAny_execs_cons (plainObj_wpAny_Assign_Attribute ?_)
  refine ldX (v := v) hn (hf.bf _ _ _ _ _ _) (ldX (v := .ref x) hn (hf.bs _ _ _ _ _ _) ?_ (hf.ks _ _ _ _) (by decide)) (hf.kf _ _ _ _) hf.dbg
  refine set_plain X₁ (ox := excO C t0) (od := none) ⟨hx₁, rfl, rfl, trivial⟩ T.sa ?_
  refine osa_P X₁ hx₁ hcl rfl rfl T.noN (fun h₃ tk₃ dx k₃ dn dne hx₃ hn₃ => ?_)
  show wpAny _ _ (execs _ _) _ _ _
  have z : s.heap.objs.size < h₁.objs.size := hn.lt
  exact wpAny_execs_nil (hq h₃ tk₃ dx ⟨fun b o hb e => k₃ b o hb (k b o e), hx₃, Nat.le_of_lt (Nat.lt_of_lt_of_le z dn), dne, hn₃⟩)
theorem x_made (T : ExT K mg x0 fl qual C P fI) (hf : FlOk fl) {v : Value} (X : K.In s.heap) (hlim : s.heap.NoLimit) (hroom : A.depth + 1 < recursionLimit)
    (hq : ∀ h' tk e d, XMade s.heap h' e C d fl v → R (.ok (.ret (.ref e))) { s with heap := h', toks := tk }) :
    codeAny (model prog w) A (.call (.ref C) ⟨[v], []⟩) R s := by
  obtain ⟨nm, q, N, bs, sn, sub, ab, col, dd, k0, k1, k2, k3, k5, hC⟩ := T.cls
  obtain ⟨hp, g, dr, tk, os⟩ := s
  have k : ∀ b o, hp.get? b = some o → ((hp.push (kdv_tup [v])).push (excO C hp.objs.size)).get? b = some o := fun b o e => Heap.get?_push_of_some _ (Heap.get?_push_of_some _ e)
  have hget : ((hp.push (kdv_tup [v])).push (excO C hp.objs.size)).get? (hp.objs.size + 1) = some (excO C hp.objs.size) := by heap_get
  refine call_own F.excBase_Exception (fun X => tailP_eq X) (X _ _ hC) (looks_findIn X T.iC) (fun self => bind_fn X self T.tC) (one_size v) ?_
  refine x_init (s := ⟨(hp.push (kdv_tup [v])).push (excO C hp.objs.size), g, dr, tk, os⟩) T hf (X.keeps k) (hlim.keeps k) hget ?_ fun h' tk' dx ⟨k', hx, dn, dne, hns⟩ => ?_
  · show A.depth + 1 < recursionLimit
    exact hroom
  · have old : ∀ b o, hp.get? b = some o → h'.get? b = some o := fun b o e => k' b o (Nat.ne_of_lt (Nat.lt_succ_of_lt (Heap.lt_size e))) (k b o e)
    have z : hp.objs.size + 1 + 1 ≤ dx := by
      first
        | (simpa only [Heap.size_push] using dn)
        | exact dn
        | (have q := dn; rw [Heap.size_push, Heap.size_push] at q; exact q)
    exact ⟨rfl, hq h' tk' (hp.objs.size + 1) dx ⟨old, Nat.le_succ _, ⟨_, hx⟩, Nat.le_trans (Nat.le_trans (Nat.le_succ _) (Nat.le_succ _)) z, dne, hns⟩⟩
end
open PySem.Spec L2
theorem relO_x {fl : Str} {v : V} {v' : Value} (r : RelV v v') (f : Str) : RelO (List.lookup f [(fl, v)]) (if f = fl then some v' else none) := by
  by_cases hw : f = fl
  · subst hw
    rw [if_pos rfl]
    have q : List.lookup f [(f, v)] = some v := by simp [List.lookup]
    rw [q]
    exact r
  · rw [if_neg hw]
    have qw : (f == fl) = false := by simpa using hw
    have q2 : List.lookup f [(fl, v)] = none := by simp [List.lookup, qw]
    rw [q2]
    trivial
section
variable {X : Cx} {C P fI : Addr} {x0 fl qual : Str}
/-- X(e) -/
def tMkX (C : Addr) (fl : Str) (ta : TA) : L2.St → Hp → XK → Prop := fun σ H Q => ta σ H fun vs H1 => ∃ v, vs = [v] ∧ ∀ d, H1 d = none → Q (.ref C) (some d) (L2.upd H1 d (.xd [(fl, v)]))
theorem pmk_x {a : Expr} {ta : TA} {p pos : Pos} {k : Nat} (T : ExT X.K X.mg x0 fl qual C P fI) (hf : FlOk fl) (hr : Room k X.A) (ha : PA X [a] ta) (hg : Gl X x0)
    (he : starEach (a :: []) X.env = (false, eval a X.env) :: starEach [] X.env := by rfl) (hpl : (backTo pos (starEach [] X.env)).any (·.1) = false := by rfl) (hdb : (x0 == ("__debug__" : Str)) = false := by decide) :
    L2N.PMk X (.Call (.Name x0 p) [a] [] pos) (tMkX C fl ta) := by
  intro pins s σ H Q I h
  refine wpAny_Call_Name_kw (ld_glob I hg T.gC ?_ hdb)
  refine callWith_K (h₀ := X.base) I.ok.mod.kin T.kC (thn (ha.run pos pins s σ H _ I h) fun us s1 hh => ?_) he hpl
  obtain ⟨vs, H1, I1, r1, v, ev, q1⟩ := hh
  subst ev
  refine ⟨I1.kIn, ?_⟩
  cases r1 with
  | cons rv rn =>
    rename_i v' us'
    cases rn
    show wpAny _ _ (call (.ref C) [v']) _ _ _
    have hlim := I1.nolimit
    obtain ⟨hp, g, dr, tk, os⟩ := s1
    refine wpAny_call (x_made T hf I1.kIn hlim (by have := hr.dp; omega) fun h' tk' e d M => ?_)
    show L2N.MkP X pins σ Q (.ref e) ⟨h', g, dr, tk', os⟩
    obtain ⟨t1, hoe⟩ := M.obj
    have hns := M.ns
    obtain ⟨G', g1, g2⟩ := restrict h' fun b => decide (b ≠ e)
    have gk : ∀ b, b ≠ e → G'.get? b = h'.get? b := fun b hb => g1 b (decide_eq_true hb)
    have ge : G'.get? e = none := g2 e (by simp)
    have old : ∀ b o, hp.get? b = some o → G'.get? b = some o := fun b o q => (gk b (Nat.ne_of_lt (Nat.lt_of_lt_of_le (Heap.lt_size q) M.new))).trans (M.keep b o q)
    have ob : ObjOk X.prog X.w (L2.upd H1 d (.xd [(fl, v)])) G' d (.xd [(fl, v)]) :=
      ⟨_, hns.at (fun o q => (gk d M.dne).trans q), fun f => relO_x rv f⟩
    have J : L2.Inv X pins σ (L2.upd H1 d (.xd [(fl, v)])) ⟨G', g, dr, tk', os⟩ := I1.laid (t' := tk') old M.dbig ob
    refine ⟨e, _, _, ⟨G', g, dr, tk', os⟩, _, .ref C, some d, rfl, J, fun b o q => ?_, ge, hoe, ⟨rfl, rfl, fun vs e => by cases e; rfl⟩, rfl, rfl, ?_, rfl, I1.bare, raises_own T.xf.exC T.tyC, q1 d (I1.hok.fresh M.dbig)⟩
    · by_cases hb : b = e
      · have q' : G'.get? b = some o := q
        rw [hb, ge] at q'; cases q'
      · exact (gk b hb).symm.trans q
    · rw [upd_ne (Ne.symm M.dne)]
      exact I1.hok.fresh M.new
/-- raise X(e) -/
def tRaiseX (C : Addr) (fl : Str) (W : WX) (ta : TA) : TS := fun _ σ H => tMkX C fl ta σ H fun cls d H' => W cls d σ H'
theorem ps_raiseX {a : Expr} {ta : TA} {W : WX} {p pos pos2 : Pos} {k : Nat} (T : ExT X.K X.mg x0 fl qual C P fI) (hf : FlOk fl) (hr : Room k X.A) (tk : L2N.Takes X W) (ha : PA X [a] ta) (hg : Gl X x0) (hc : X.calm = true := by rfl)
    (he : starEach (a :: []) X.env = (false, eval a X.env) :: starEach [] X.env := by rfl) (hpl : (backTo pos (starEach [] X.env)).any (·.1) = false := by rfl) (hdb : (x0 == ("__debug__" : Str)) = false := by decide) :
    PS X (.Raise (some (.Call (.Name x0 p) [a] [] pos)) none pos2) (tRaiseX C fl W ta)   := L2N.ps_raise hc tk (pmk_x T hf hr ha hg he hpl hdb)
end
end Ps

/-! try with several named clauses; calls whose errors are wished for at the caller's slots. -/
namespace Ps
open PySem PySem.Spec PyProof.Rows L2

/-- a clause: the class, the name's slot, the suite's reading -/
abbrev Cl : Type := Value × Nat × (Addr → Value → Option Addr → TS)
/-- the ends of a suite whose name goes behind it -/
def endsN (D : Ends) (i : Nat) : Ends := { nx := fun σ' H' => D.nx (σ'.set i none) H', rt := D.rt, bk := fun σ' H' => D.bk (σ'.set i none) H', ct := fun σ' H' => D.ct (σ'.set i none) H' }
def wN (K : PySem.W.Frag) (Wout : WX) (D : Ends) : List Cl → WX
  | [] => Wout
  | (c, i, ts) :: r => fun cls d σ H => ∃ b, PySem.W.exmOne K cls c = some b ∧ (b = true → ∀ a, H a = none → ts a cls d (endsN D i) (σ.set i (some (.ref a))) H) ∧ (b = false → wN K Wout D r cls d σ H)
inductive HdsN (X : Cx) : List ExceptHandler → List Cl → Prop
  | nil : HdsN X [] []
  | cons {x n : Str} {c : Value} {i : Nat} {ts : Addr → Value → Option Addr → TS} {b₀ : Stmt} {suite : List Stmt} {np pos' : Pos} {hds : List ExceptHandler} {l : List Cl} (hi : X.N[i]? = some n) (hln : X.env.kindOf n = some .local) (hc : Names X x c)
      (hsu : ∀ (a : Addr) (oe : Obj) (cls : Value) (d : Option Addr) (pn : List (Addr × Obj)), L2N.Zn cls d oe → (∃ vs, oe.data = .fields vs) → PSs (X.suite a ((a, oe) :: pn)) (b₀ :: suite) (ts a cls d)) (r : HdsN X hds l) :
      HdsN X (.ExceptHandler (some (.Name x np)) (some n) (b₀ :: suite) pos' :: hds) ((c, i, ts) :: l)
/-- the error has landed: s is the state, sI the one without it -/
structure Down (X : Cx) (pins : List (Addr × Obj)) (a : Addr) (B : Heap) (cls : Value) (d : Option Addr) (σ : L2.St) (H : Hp) (sI s : Shared) : Prop where
  inv : L2.Inv X pins σ H sI
  nb : ∀ b o, sI.heap.get? b = some o → b ∉ frs X.stack → B.get? b = some o
  up : sI.heap.UpToSlots s.heap
  fl : HandSPX.FlyingZ B (X.env :: X.outer) a (L2N.Zn cls d) s.heap
  na : H a = none
  os : s.os = sI.os
  ag : AllBare s.gens
section
variable {X : Cx} {pins : List (Addr × Obj)} {a : Addr} {B : Heap} {cls : Value} {d : Option Addr} {σ : L2.St} {H : Hp} {sI s : Shared} {Wout : WX} {D : Ends}
theorem Down.here (G : Down X pins a B cls d σ H sI s) : L2.Inv X pins σ H s := G.inv.landed G.nb G.fl.1 G.up G.os G.ag
theorem Down.off (G : Down X pins a B cls d σ H sI s) (hf : X.env.frame = some X.env.locals) : a ≠ X.env.locals ∧ a ∉ X.fs := by
  obtain ⟨oe, vs, he, hz, hd⟩ := G.fl.there
  have nfr : a ∉ frs (X.env :: X.outer) := fun hm => by
    obtain ⟨_, o', e', hnf⟩ := G.fl.2.2.1.mem hm
    rw [he] at e'
    cases e'
    exact hnf _ hd
  refine ⟨fun z => nfr (List.mem_filterMap.mpr ⟨X.env, List.mem_cons_self, by rw [hf, z]⟩), fun hm => ?_⟩
  obtain ⟨e, h1, q⟩ := List.mem_filterMap.mp hm
  exact nfr (List.mem_filterMap.mpr ⟨e, List.mem_cons_of_mem _ h1, q⟩)
/-- no clause is left: it goes on -/
theorem down_nil (G : Down X pins a B cls d σ H sI s) (hs : X.stack = X.env :: X.outer) (hf : X.env.frame = some X.env.locals) (tk : L2N.Takes X Wout) (w : Wout cls d σ H) : wpAny (model X.prog X.w) X.A (handleBy (.ref a) X.env []) (SP X pins D) X.xe s := by
  refine wpAny_handleBy_nil ?_
  obtain ⟨k1, k2, k3, oe, vs, T, oT, ts', he, hz, hd, h1, hr⟩ := id G.fl
  unfold PySem.passOn
  refine wpAny_bind (wpAny_field he hd h1 ?_)
  rw [if_neg (show ¬ ((Value.ref T == Value.none) = true) from by simp)]
  have fin : wpAny (model X.prog X.w) X.A (setFlight (.ref a) X.env.frame) (fun _ s4 => wpAny (model X.prog X.w) X.A (throw (.ref a) : Sem Flow) (SP X pins D) X.xe s4) X.xe s := by
    rw [hf]
    refine HandSPX.setFlight_upZ G.fl fun h4 hh4 up4 => wpAny_throw (tk _ _ ?_)
    exact ⟨a, B, sI, pins, σ, H, cls, d, rfl, G.inv, G.nb, G.up.trans up4, .inr (.inr (by rw [hs]; exact hh4)), G.na, G.os, G.ag, w⟩
  first
    | exact wpAny_bind (wpAny_pure (wpAny_bind fin))
    | exact wpAny_bind fin
/-- the clause's suite runs -/
theorem down_suite {n : Str} {i : Nat} {ts : Addr → Value → Option Addr → TS} {b₀ : Stmt} {suite : List Stmt} {pos' : Pos} {Q : Flow → Shared → Prop} {E1 E2 : Value → Shared → Prop} (G : Down X pins a B cls d σ H sI s) (hf : X.env.frame = some X.env.locals) (hN : X.N.Nodup) (hi : X.N[i]? = some n) (hln : X.env.kindOf n = some .local)
    (hsu : ∀ (a : Addr) (oe : Obj) (cls : Value) (d : Option Addr) (pn : List (Addr × Obj)), L2N.Zn cls d oe → (∃ vs, oe.data = .fields vs) → PSs (X.suite a ((a, oe) :: pn)) (b₀ :: suite) (ts a cls d))
    (w : ts a cls d (endsN D i) (σ.set i (some (.ref a))) H) (hQ : ∀ f s', SP X pins D f s' → Q f s') :
    wpAny (model X.prog X.w) (X.A.mark (some (.ref a))) (storeName X.env n (.ref a)) (fun _ s5 => wpAny (model X.prog X.w) (X.A.mark (some (.ref a))) (execs (b₀ :: suite) X.env)
      (fun f s6 => wpAny (model X.prog X.w) X.A (do bindName X.env n .none; unbindBehindTheSuite X.env n pos') (fun _ s7 => Q f s7) X.xe s6) E2 s5) E1 s := by
  obtain ⟨oe, vs, he, hz, hd⟩ := G.fl.there
  have J := G.here
  obtain ⟨nL, nF⟩ := G.off hf
  have S4 := J.suite he hd G.na nL nF
  refine store_ok (X := X.suite a ((a, oe) :: (X.pn ++ pins))) (v := .ref a) S4 hN hi (.inl hln) rfl (fun s5 S5 => ?_) (.inr hln)
  refine wpAny_mono ((hsu a oe cls d (X.pn ++ pins) hz ⟨_, hd⟩).run [] s5 _ H _ S5 w) (fun f s6 hsp => ?_) (fun _ _ z => False.elim z)
  have away : ∀ {σ6 : L2.St} {H6 : Hp}, L2.Inv (X.suite a ((a, oe) :: (X.pn ++ pins))) [] σ6 H6 s6 → (∀ s7, L2.Inv X pins (σ6.set i none) H6 s7 → SP X pins D f s7) →
      wpAny (model X.prog X.w) X.A (do bindName X.env n .none; unbindBehindTheSuite X.env n pos') (fun _ s7 => Q f s7) X.xe s6 := fun {σ6 H6} S6 hq => gone_ok (S6.unsuite J.ok) hN hi hln fun s7 J7 => hQ _ _ (hq s7 J7)
  cases f with
  | next => obtain ⟨σ6, H6, S6, q6⟩ := hsp; exact away S6 fun s7 J7 => ⟨_, _, J7, q6⟩
  | brk => obtain ⟨σ6, H6, S6, q6⟩ := hsp; exact away S6 fun s7 J7 => ⟨_, _, J7, q6⟩
  | cont => obtain ⟨σ6, H6, S6, q6⟩ := hsp; exact away S6 fun s7 J7 => ⟨_, _, J7, q6⟩
  | ret u => obtain ⟨v6, σ6, H6, S6, r6, q6⟩ := hsp; exact away S6 fun s7 J7 => ⟨_, _, _, J7, r6, q6⟩
theorem down_all (hs : X.stack = X.env :: X.outer) (hf : X.env.frame = some X.env.locals) (hN : X.N.Nodup) (tk : L2N.Takes X Wout) : ∀ {hds : List ExceptHandler} {l : List Cl}, HdsN X hds l → ∀ {s : Shared}, Down X pins a B cls d σ H sI s → wN X.K Wout D l cls d σ H →
    wpAny (model X.prog X.w) X.A (handleBy (.ref a) X.env hds) (SP X pins D) X.xe s
  | _, _, .nil, s, G, w => down_nil G hs hf tk w
  | _, _, @HdsN.cons _ x n c i ts b₀ suite np pos' hds l hi hln hc hsu r, s, G, w => by
    obtain ⟨b, hb1, hyes, hno⟩ := w
    obtain ⟨oe, vs, he, hz, hd⟩ := G.fl.there
    obtain ⟨nL, nF⟩ := G.off hf
    have S3 := G.here.suite he hd G.na nL nF
    refine wpAny_handleBy_cons (codeAny_handlers_test ?_) (by intro q; cases q)
    have LT : PySem.W.Looks (model X.prog X.w) s.heap (typeOf (.ref a)) cls := fun A Q E s k q => wpAny_typeOf_ref (k _ _ he) (by rw [hz.1]; exact q)
    have LM := PySem.W.exm_one (M := model X.prog X.w) G.here.kIn LT hb1
    have look : ∀ {Q : Value → Shared → Prop} {E : Value → Shared → Prop}, Q c s → wpAny (model X.prog X.w) (X.A.mark (some (.ref a))) (eval (.Name x np) X.env) Q E s := fun {Q E} q => by
      obtain ⟨hg, hdbg, hm | ⟨hm, hv, hnn⟩⟩ := hc
      · exact ld_glob (X := X.suite a ((a, oe) :: (X.pn ++ pins))) S3 hg hm q hdbg
      · exact ld_blt (X := X.suite a ((a, oe) :: (X.pn ++ pins))) S3 hg hm hv q hnn hdbg
    refine look (LM.here ?_)
    cases b with
    | false =>
      show wpAny _ X.A (handleBy (.ref a) X.env hds) _ _ _
      exact down_all hs hf hN tk r G (hno rfl)
    | true =>
      refine codeAny_handlers_suite_as ?_
      refine HandSPX.lands_againZ G.fl fun h4 fl4 up4 => ?_
      have G4 : Down X pins a B cls d σ H sI { s with heap := h4 } := ⟨G.inv, G.nb, G.up.trans up4, fl4, G.na, G.os, G.ag⟩
      exact down_suite G4 hf hN hi hln hsu (hyes rfl a G.na) (fun _ _ q => q)
end
section
variable {X : Cx} {body : List Stmt} {h₀ : ExceptHandler} {hds : List ExceptHandler} {l : List Cl} {pos : Pos} {tb : WX → TS} {Wout : WX}
/-- try: body / except A as n: .. / except B as n: .. -/
theorem ps_tryN (hs : X.stack = X.env :: X.outer) (hf : X.env.frame = some X.env.locals) (hN : X.N.Nodup) (tk : L2N.Takes X Wout)
    (hb : ∀ (W : WX) (pn : List (Addr × Obj)) (xe : Value → Shared → Prop), L2N.Takes (X.tr pn xe) W → PassesOwn (model X.prog X.w) X.A X.env xe → PSs (X.tr pn xe) body (tb W))
    (hh : HdsN X (h₀ :: hds) l) : PS X (.Try body (h₀ :: hds) [] [] pos) (fun D σ H => tb (wN X.K Wout D l) D σ H) := by
  refine ⟨fun pins s σ H D I h => ?_⟩
  have ok := I.ok
  have hfr : X.A.frames = some (X.env :: X.outer) := by rw [ok.frames, hs]
  refine wpAny_Try_except ?_
  have run := (hb (wN X.K Wout D l) (X.pn ++ pins) (fun e s₁ => wpAny (model X.prog X.w) X.A (noteFrame e X.env) (fun _ s₂ => wpAny (model X.prog X.w) X.A (setFlight e none) (fun _ s₃ =>
    wpAny (model X.prog X.w) X.A (handleBy e X.env (h₀ :: hds)) (SP X pins D) X.xe s₃) X.xe s₂) X.xe s₁) (fun u s' xx => ?_) PassesOwn.looking).run [] s σ H D (I.toTry _) h
  · refine wpAny_mono run (fun f s1 hsp => ?_) (fun e s1 he => he)
    cases f with
    | next => obtain ⟨σ', H', J', q⟩ := hsp; exact wpAny_execs_nil ⟨σ', H', J'.ofTry ok, q⟩
    | brk => obtain ⟨σ', H', J', q⟩ := hsp; exact ⟨σ', H', J'.ofTry ok, q⟩
    | cont => obtain ⟨σ', H', J', q⟩ := hsp; exact ⟨σ', H', J'.ofTry ok, q⟩
    | ret u => obtain ⟨v, σ', H', J', r, q⟩ := hsp; exact ⟨v, σ', H', J'.ofTry ok, r, q⟩
  · obtain ⟨a, B, sI, pins', σ', H', cls, d, rfl, J', nb, up, sky, na, os, ag, w⟩ := xx
    have sky' : Sky B (X.env :: X.outer) a (L2N.Zn cls d) X.env.locals s'.heap := by rw [← hs]; exact sky
    show wpAny (model X.prog X.w) X.A (noteFrame (.ref a) X.env) _ _ _
    refine L2N.Sky.land L2N.Zn.steady hfr hf sky' fun h3 fl3 up3 => ?_
    exact down_all hs hf hN tk hh (s := { s' with heap := h3 }) ⟨J'.ofTry ok, nb, up.trans up3, fl3, na, os, ag⟩ w
end
end Ps

/-! Defs that raise; their calls inside a try; defs called while an error is handled. -/
namespace Ps
open PySem PySem.Spec PyProof.Rows L2

/-- what leaves a def that raises: errors whose context is None -/
abbrev CXN (Z : Cz) : CXT := L2N.CX Z.P Z.w
section
variable {P : Program} {w : World} {K : PySem.W.Frag} {mg : Str → Option Value} {base : Heap}
theorem Fun.okN {x qual : Str} {st : Stmt} {f : Addr} {fd : FuncData} {N ps : List Str} {k : Nat} {sp : Sp} {CX : CXT} (F : Fun K x qual st f fd) (S : FnScope N ps (defScope st)) (len : ∀ vs H Q E, sp vs H Q E → vs.length = ps.length)
    (hbody : ∀ (cdv : Value) (A : Around) (outer : List Env) (s : Shared) (H : Hp) (vs : List V) (Q : VK) (E : XK), Room k (A.deeper (envOfC qual (defScope st) s.heap.objs.size f cdv)) → sp vs H Q E →
      ∃ t, PSs (cxOf CX P w K mg base N qual (defScope st) f cdv A outer s H E) (defBody st) t ∧ t { nx := fun _ H' => Q .non H', rt := Q } (start N vs) H) : FnOk P w K mg base CX (k + 1) f fd ps sp := by
  obtain ⟨oc, od, kV, doc, pm, an, cdv, ct, osl, rfl, lk, hcd⟩ := F.ex
  exact fn_of lk hcd S len fun A outer s H vs Q E hr hsp => hbody cdv A outer s H vs Q E hr hsp
theorem Fun.okH {x qual : Str} {st : Stmt} {f : Addr} {fd : FuncData} {N ps : List Str} {k : Nat} {sp : Sp} {CX : CXT} (F : Fun K x qual st f fd) (S : FnScope N ps (defScope st)) (len : ∀ vs H Q E, sp vs H Q E → vs.length = ps.length)
    (hbody : ∀ (cdv : Value) (A : Around) (outer : List Env) (s : Shared) (H : Hp) (vs : List V) (Q : VK) (E : XK) (p : Addr × Obj), L2H.Hot1 A p → L2H.RoomH k (A.deeper (envOfC qual (defScope st) s.heap.objs.size f cdv)) → sp vs H Q E →
      ∃ t, PSs (L2H.cxH CX P w K mg base N qual (defScope st) f cdv A outer s H E p) (defBody st) t ∧ t { nx := fun _ H' => Q .non H', rt := Q } (start N vs) H) : L2H.FnH P w K mg base CX (k + 1) f fd ps sp := by
  obtain ⟨oc, od, kV, doc, pm, an, cdv, ct, osl, rfl, lk, hcd⟩ := F.ex
  exact L2H.fn_ofH lk hcd S len fun A outer s H vs Q E p hot hr hsp => hbody cdv A outer s H vs Q E p hot hr hsp
/-- a def that raises, where it raises nothing -/
theorem okCalm {k : Nat} {f : Addr} {fd : FuncData} {ps : List Str} {sp sp' : Sp} (F : FnOk P w K mg base (L2N.CX P w) k f fd ps sp) (h : ∀ vs H Q E, sp' vs H Q E → sp vs H Q E0) : FnOk P w K mg base CX0 k f fd ps sp' := by
  refine ⟨fun vs H Q E hs => F.len vs H Q E0 (h vs H Q E hs), fun A outer s H args us vs Q E hr e0 hb r hs => ?_⟩
  refine codeAny_mono (F.run A outer s H args us vs Q E0 hr e0 hb r (h _ _ _ _ hs)) fun r s' hq => ?_
  cases r with
  | error e =>
    obtain ⟨_, _, _, _, _, _, _, _, _, _, _, _, z⟩ := hq
    exact z.elim
  | ok fl => cases fl <;> exact hq
end
/-- all errors of the def go out as they are -/
theorem passN {X : Cx} {E : XK} (tk : L2N.Takes X (fun cls d _ H => E cls d H)) : Passes (L2N.CX X.prog X.w) X E := L2N.passes_call tk fun _ _ _ _ h => h
section
variable {Z : Cz} {X : Cx} {CX : CXT} {k : Nat} {C : Addr} {ps : List Str} {sp : Sp} {dvs : List V} {E : L2.St → XK} {x m : Str} {p pos apos : Pos} {e o : Expr} {es : List Expr} {ta : TE} {t : TA}
theorem pe_calS (c : Cal Z CX k x ps dvs sp) (hr : Room k X.A) (hg : Gl X x) (hx : ∀ σ, PassesAt CX X σ (E σ)) (ha : PA X (e :: es) t) (z : InZ Z X := by exact ⟨rfl, rfl, rfl, rfl, rfl⟩)
    (hdb : (x == ("__debug__" : Str)) = false := by decide) (he : starEach (e :: es) X.env = (false, eval e X.env) :: starEach es X.env := by rfl) (hpl : (backTo pos (starEach es X.env)).any (·.1) = false := by rfl) :
    PE X (.Call (.Name x p) (e :: es) [] pos) (tCallSD sp dvs E t) := by
  obtain ⟨f, fd, ds, G, h1, h2, h3, h4⟩ := c
  exact pe_callSD (z.ok G) hr hg (by rw [z.mg]; exact h1) (by rw [z.K]; exact h2) (by rw [z.K]; exact h3) h4 hx ha hdb he hpl
def tMakeS (C : Addr) (sp : Sp) (dvs : List V) (E : L2.St → XK) (t : TA) : TE := fun σ H Q => t σ H fun vs H1 => ∀ x dx, H1 x = none → H1 dx = none → dx ≠ x →
  sp (.ref x :: (vs ++ dvs)) (upd (upd H1 dx (.own x)) x (.ins C dx [])) (fun v H2 => v = .non ∧ Q (.ref x) H2) (E σ)
theorem pe_calCS (c : CalC Z CX k C x ps dvs sp) (hr : Room (k + 1) X.A) (hg : Gl X x) (hx : ∀ σ, PassesAt CX X σ (E σ)) (ha : PA X (e :: es) t) (z : InZ Z X := by exact ⟨rfl, rfl, rfl, rfl, rfl⟩)
    (hdb : (x == ("__debug__" : Str)) = false := by decide) (he : starEach (e :: es) X.env = (false, eval e X.env) :: starEach es X.env := by rfl) (hpl : (backTo pos (starEach es X.env)).any (·.1) = false := by rfl) :
    PE X (.Call (.Name x p) (e :: es) [] pos) (tMakeS C sp dvs E t) := by
  obtain ⟨f, fd, ds, G, M, h2, hb, hd⟩ := c
  have F := z.ok G
  rw [← z.K] at M hb
  refine ⟨fun pins s σ H Q I h => ?_⟩
  refine wpAny_Call_Name_kw (ld_glob I hg (by rw [z.mg]; exact h2) ?_ hdb)
  refine PySem.W.callWith_K (h₀ := X.base) I.ok.mod.kin M.kp (thn (ha.run pos pins s σ H _ I h) fun us s1 ⟨vs, H1, I1, r, q⟩ => ⟨I1.kIn, ?_⟩) he hpl
  have q1 := q (s1.heap.objs.size + 1) s1.heap.objs.size (I1.hok.fresh (Nat.le_succ _)) (I1.hok.fresh (Nat.le_refl _)) (Nat.ne_of_lt (Nat.lt_succ_self _))
  have I2 := Inv.made (C := C) I1
  have r2 : Vals (V.ref (s1.heap.objs.size + 1) :: (vs ++ dvs)) (Value.ref (s1.heap.objs.size + 1) :: (us ++ ds)) := .cons rfl (r.append hd)
  have hl : (Value.ref (s1.heap.objs.size + 1) :: us ++ ds).length = ps.length := r2.length.symm.trans (F.len _ _ _ _ q1)
  have run := F.run _ X.stack _ _ ⟨Value.ref (s1.heap.objs.size + 1) :: us, []⟩ (Value.ref (s1.heap.objs.size + 1) :: (us ++ ds)) _ _ (E σ) (hr.make C us []) (I2.env0.make C us []) (hb _ (Value.ref (s1.heap.objs.size + 1) :: us) I2.kIn hl) r2 q1
  refine wpAny_call (make_map (f := f) I1.kIn M.makes M.init (beq_iff_eq.mp M.fn) (codeAny_mono run fun rr s' hq' => ?_))
  cases rr with
  | error e => exact hx σ pins _ _ e s' I2 hq'
  | ok fl =>
    cases fl with
    | ret u =>
      obtain ⟨v, H', I3, rv, ev, q3⟩ := I2.after hq'
      subst ev
      exact ⟨rv, ⟨V.ref (s1.heap.objs.size + 1), H', I3, rfl, q3⟩⟩
    | next => exact False.elim hq'
    | brk => exact False.elim hq'
    | cont => exact False.elim hq'
def tMethS' (C : Addr) (m : Str) (sp : Sp) (dvs : List V) (E : L2.St → XK) (ta : TE) (t : TA) : TE := fun σ H Q => ta σ H fun x H1 => ∃ a dx fs, x = .ref a ∧ H1 a = some (.ins C dx fs) ∧ fs.lookup m = none ∧
  t σ H1 fun vs H2 => sp (x :: (vs ++ dvs)) H2 Q (E σ)
theorem pe_calMS {pl : Sem Bool} (c : CalM Z CX k C m ps dvs sp) (hr : Room k X.A) (hx : ∀ σ, PassesAt CX X σ (E σ)) (he : PE X o ta) (ha : PA X (e :: es) t) (z : InZ Z X := by exact ⟨rfl, rfl, rfl, rfl, rfl⟩)
    (hst : starEach (e :: es) X.env = (false, eval e X.env) :: starEach es X.env := by rfl) (hpl : (backTo pos (starEach es X.env)).any (·.1) = false := by rfl)
    (ht : eval (.Call (.Attribute o m apos) (e :: es) [] pos) X.env = (do
      let ov ← eval o X.env
      standAt apos.atName
      let (f, first) ← holding [ov] (getMethod ov m pl)
      callWith pos f first (backTo pos (starEach (e :: es) X.env)) (backToKw pos (keywordEach [] X.env))) := by rfl) :
    PE X (.Call (.Attribute o m apos) (e :: es) [] pos) (tMethS' C m sp dvs E ta t) := by
  obtain ⟨f, fd, ds, G, hm, cl, hb, hd⟩ := c
  rw [← z.K] at hm cl hb
  refine ⟨fun pins s σ H Q I h => ?_⟩
  refine PySem.W.methodCall_KW (pl := pl) (thn (he.run pins s σ H _ I h) fun u s1 ⟨x, H1, I1, rx, a, dx, fs, ex, ea, l, q⟩ => ?_) ht
  subst ex
  obtain rfl : u = Value.ref a := rx
  refine getmeth_ok I1 ea cl hm l ?_
  refine PySem.W.callWith_K (first := [.ref a]) (h₀ := X.base) I.ok.mod.kin hm.kp (thn (ha.run pos pins s1 σ H1 _ I1 q) fun us s2 ⟨vs, H2, I2, r, q2⟩ => ⟨I2.kIn, ?_⟩) hst hpl
  exact run_fnSD (us := .ref a :: us) (vs := .ref a :: vs) (z.ok G) hr hb hd (hx σ) I2 (.cons rfl r) q2
end
/-! ### while an error is handled -/
/-- a def, called so -/
def CalH (Z : Cz) (k : Nat) (x : Str) (ps : List Str) (sp : Sp) : Prop := ∃ f fd, L2H.FnH Z.P Z.w Z.K Z.mg Z.base CX0 k f fd ps sp ∧ Z.mg x = some (.ref f) ∧ PySem.W.keepIn Z.K (.ref f) = true ∧ Binds Z.K fd ps []
def CalMH (Z : Cz) (k : Nat) (C : Addr) (m : Str) (ps : List Str) (sp : Sp) : Prop := ∃ f fd, L2H.FnH Z.P Z.w Z.K Z.mg Z.base CX0 k f fd ps sp ∧ Meth Z.K C m f ∧ Cls Z.K C ∧ Binds Z.K fd ps []
def CalSH (Z : Cz) (k : Nat) (C : Addr) (m : Str) (ps : List Str) (sp : Sp) : Prop := ∃ f fd, L2H.FnH Z.P Z.w Z.K Z.mg Z.base CX0 k f fd ps sp ∧ OwnOp Z.K C f m ∧ Binds Z.K fd ps []
theorem passAt0 {X : Cx} (σ : L2.St) : PassesAt CX0 X σ E0 := fun _ _ _ _ _ _ h => h.elim
section
variable {Z : Cz} {X : Cx} {k : Nat} {C : Addr} {ps : List Str} {sp : Sp} {x m : Str} {p pos apos : Pos} {e o : Expr} {es : List Expr} {ta : TE} {t : TA}
theorem okHz {f : Addr} {fd : FuncData} (z : InZ Z X) (G : L2H.FnH Z.P Z.w Z.K Z.mg Z.base CX0 k f fd ps sp) : L2H.FnH X.prog X.w X.K X.mg X.base CX0 k f fd ps sp := by
  obtain ⟨h1, h2, h3, h4, h5⟩ := z
  rw [h1, h2, h3, h4, h5]
  exact G
theorem pe_calH (c : CalH Z k x ps sp) (hr : L2H.RoomH k X.A) (hc : L2H.HotC X) (hg : Gl X x) (ha : PA X (e :: es) t) (z : InZ Z X := by exact ⟨rfl, rfl, rfl, rfl, rfl⟩)
    (hdb : (x == ("__debug__" : Str)) = false := by decide) (he : starEach (e :: es) X.env = (false, eval e X.env) :: starEach es X.env := by rfl) (hpl : (backTo pos (starEach es X.env)).any (·.1) = false := by rfl) :
    PE X (.Call (.Name x p) (e :: es) [] pos) (tCallS sp (fun _ => E0) t) := by
  obtain ⟨f, fd, G, h1, h2, h3⟩ := c
  exact L2H.pe_callH (okHz z G) hr hc hg (by rw [z.mg]; exact h1) (by rw [z.K]; exact h2) (by rw [z.K]; exact h3) (fun σ => passAt0 σ) ha hdb he hpl
theorem pe_calMH {pl : Sem Bool} (c : CalMH Z k C m ps sp) (hr : L2H.RoomH k X.A) (hc : L2H.HotC X) (he : PE X o ta) (ha : PA X (e :: es) t) (z : InZ Z X := by exact ⟨rfl, rfl, rfl, rfl, rfl⟩)
    (hst : starEach (e :: es) X.env = (false, eval e X.env) :: starEach es X.env := by rfl) (hpl : (backTo pos (starEach es X.env)).any (·.1) = false := by rfl)
    (ht : eval (.Call (.Attribute o m apos) (e :: es) [] pos) X.env = (do
      let ov ← eval o X.env
      standAt apos.atName
      let (f, first) ← holding [ov] (getMethod ov m pl)
      callWith pos f first (backTo pos (starEach (e :: es) X.env)) (backToKw pos (keywordEach [] X.env))) := by rfl) :
    PE X (.Call (.Attribute o m apos) (e :: es) [] pos) (L2H.tMethH C m sp (fun _ => E0) ta t) := by
  obtain ⟨f, fd, G, h1, h2, h3⟩ := c
  exact L2H.pe_methH (pl := pl) he (by rw [z.K]; exact h2) (by rw [z.K]; exact h1) (okHz z G) hr hc (by rw [z.K]; exact h3) (fun σ => passAt0 σ) ha hst hpl ht
theorem op_cmpH {op : CmpOp} (c : CalSH Z k C (cmpInfo op).2.1 ps sp) (hr : L2H.RoomH k X.A) (hc : L2H.HotC X) (z : InZ Z X := by exact ⟨rfl, rfl, rfl, rfl, rfl⟩) (hop : ∀ a b, compareOp op a b = richCompare op a b := by intro _ _; rfl) : OpR X (compareOp op) (rCmp Z.K C sp E0) := by
  obtain ⟨f, fd, G, h1, h2⟩ := c
  have z' := z
  obtain ⟨e1, e2, e3, e4, e5⟩ := z
  intro pins s σ H x y v u Q I rx ry h
  obtain ⟨⟨a, dx, fs, rfl, ha⟩, ⟨t, ty, ht⟩, h⟩ := h
  cases (show v = Value.ref a from rx)
  rw [← e3] at ty ht h1 h2
  obtain ⟨mA, J0, _⟩ := ins_get I.hok ha
  obtain ⟨od, J, _⟩ := J0.look
  obtain ⟨P, Zk, p, _⟩ := kit_of I ry ty
  obtain ⟨m, hF⟩ := I.fr
  rw [hop]
  refine PySem.W.cmp_K (by have := hr.un; omega) hF I.ok.mod.kin J (Zk.ty (model X.prog X.w) s.heap I.kIn p) ht h1.fn h1.isf ?_
  exact wpAny_mono (L2H.run_fnH (E := fun _ => E0) (us := [.ref a, u]) (vs := [.ref a, y]) (okHz z' G) hr hc h2 (passAt0 σ) I (.cons rfl (.cons ry .nil)) h) (fun _ _ z => cmpBack z) fun _ _ z => z
/-- in a suite -/
theorem hotS {a : Addr} {oe : Obj} {cls : Value} {d : Option Addr} {pn : List (Addr × Obj)} (hz : L2N.Zn cls d oe) (hf : ∃ vs, oe.data = .fields vs) : L2H.HotC (X.suite a ((a, oe) :: pn)) := by
  obtain ⟨vs, hd⟩ := hf
  exact ⟨(a, oe), ⟨rfl, vs, hd, hz.2.2 vs hd⟩, List.mem_cons_self⟩
theorem roomS {a : Addr} {pn : List (Addr × Obj)} (hr : Room k X.A) : L2H.RoomH k (X.suite a pn).A := ⟨hr.dp, hr.un⟩
/-- in a def that was called so -/
theorem hotD {CX : CXT} {P : Program} {w : World} {K : PySem.W.Frag} {mg : Str → Option Value} {base : Heap} {N : List Str} {qual : Str} {scope : Scope} {f : Addr} {cd : Value} {A : Around} {outer : List Env} {s : Shared} {H : Hp} {E : XK} {q : Addr × Obj} (h : L2H.Hot1 A q) :
    L2H.HotC (L2H.cxH CX P w K mg base N qual scope f cd A outer s H E q) := ⟨q, h, List.mem_cons_self⟩
end
end Ps

/-! Defs that are called where no repr is running (Around.guards is the empty list): they may tell the repr of lists, tuples, dicts. -/
namespace Ps
open PySem PySem.Spec PyProof.Rows L2

structure FnG (P : Program) (w : World) (K : PySem.W.Frag) (mg : Str → Option Value) (base : Heap) (CX : CXT) (k : Nat) (f : Addr) (fd : FuncData) (ps : List Str) (sp : Sp) : Prop where
  len : ∀ vs H Q E, sp vs H Q E → vs.length = ps.length
  run : ∀ (A : Around) (outer : List Env) (s : Shared) (H : Hp) (args : Args) (us : List Value) (vs : List V) (Q : VK) (E : XK), Room k A → A.guards = some [] → Env0 P w K mg base A outer s H → BindsTo s fd args (ps.zip us) → Vals vs us → sp vs H Q E →
    codeAny (model P w) A (.call (.ref f) args) (CR CX outer P w H s Q E) s
theorem guards_deeper (A : Around) (env : Env) : (A.deeper env).guards = A.guards := rfl
section
variable {P : Program} {w : World} {K : PySem.W.Frag} {mg : Str → Option Value} {base : Heap}
theorem Fun.okG {x qual : Str} {st : Stmt} {f : Addr} {fd : FuncData} {N ps : List Str} {k : Nat} {sp : Sp} {CX : CXT} (F : Fun K x qual st f fd) (S : FnScope N ps (defScope st)) (len : ∀ vs H Q E, sp vs H Q E → vs.length = ps.length)
    (hbody : ∀ (cdv : Value) (A : Around) (outer : List Env) (s : Shared) (H : Hp) (vs : List V) (Q : VK) (E : XK), Room k (A.deeper (envOfC qual (defScope st) s.heap.objs.size f cdv)) → A.guards = some [] → sp vs H Q E →
      ∃ t, PSs (cxOf CX P w K mg base N qual (defScope st) f cdv A outer s H E) (defBody st) t ∧ t { nx := fun _ H' => Q .non H', rt := Q } (start N vs) H) : FnG P w K mg base CX (k + 1) f fd ps sp := by
  obtain ⟨oc, od, kV, doc, pm, an, cdv, ct, osl, rfl, lk, hcd⟩ := F.ex
  refine ⟨len, fun A outer s H args us vs Q E hr hg e0 hb r hsp => ?_⟩
  have KX : K.In s.heap := e0.mod.kin.keeps fun b o e => (e0.bs b o e).1
  have hkind : ∀ y ∈ ps.zip us, (defScope st).names.lookup y.1 = some .local ∨ ((defScope st).names.lookup y.1 = some .cell ∧ ((cellsFrom (s.heap.objs.size + 1) (defScope st).names []).lookup y.1).isSome = true) := fun y hy =>
    (S.par y.1 (List.of_mem_zip (show (y.1, y.2) ∈ ps.zip us from hy)).1).imp id fun q => ⟨q, PySem.W.cellsFrom_some _ _ _ (.inl q)⟩
  obtain ⟨t, ht, hq⟩ := hbody cdv A outer s H vs Q E (hr.deeper _) hg hsp
  refine codeAny_call_function hr.depth (KX _ _ lk) rfl S.co S.gen rfl (PySem.W.codeRec_of KX hcd) (hb _ _ _ _ (wpAny_newFunctionEnv_cells S.kind hkind fun env he s1 x => ?_))
  subst he
  have lim : s.heap.NoLimit := e0.mod.nolimit.keeps fun b o e => (e0.bs b o e).1
  refine ⟨lim.keeps x.toInCall.keep, codeAny_func ?_⟩
  have I := inv_start (CX := CX) (E := E) S hr.hd e0 (len _ _ _ _ hsp) r x
  refine wpAny_mono (ht.run [] s1 _ H _ I hq) (fun fl s' hs => ?_) fun e s' hs => hs
  cases fl with
  | ret u => obtain ⟨v, σ', H', J, rv, q⟩ := hs; exact ⟨v, H', J.os, J.bare, J.base, J.hok, rv, q⟩
  | next => obtain ⟨σ', H', J, q⟩ := hs; exact ⟨V.non, H', J.os, J.bare, J.base, J.hok, rfl, q⟩
  | brk => obtain ⟨_, _, _, q⟩ := hs; exact False.elim q
  | cont => obtain ⟨_, _, _, q⟩ := hs; exact False.elim q
theorem FnOk.toG {CX : CXT} {k : Nat} {f : Addr} {fd : FuncData} {ps : List Str} {sp : Sp} (F : FnOk P w K mg base CX k f fd ps sp) : FnG P w K mg base CX k f fd ps sp :=
  ⟨F.len, fun A outer s H args us vs Q E hr _ e0 hb r h => F.run A outer s H args us vs Q E hr e0 hb r h⟩
end
/-- such a def -/
def CalG (Z : Cz) (CX : CXT) (k : Nat) (x : Str) (ps : List Str) (sp : Sp) : Prop := ∃ f fd, FnG Z.P Z.w Z.K Z.mg Z.base CX k f fd ps sp ∧ Z.mg x = some (.ref f) ∧ PySem.W.keepIn Z.K (.ref f) = true ∧ Binds Z.K fd ps []
section
variable {Z : Cz} {X : Cx} {CX : CXT} {k : Nat} {ps : List Str} {sp : Sp} {x : Str} {p pos : Pos} {e : Expr} {es : List Expr} {t : TA} {E : XK}
theorem pe_calG (c : CalG Z CX k x ps sp) (hr : Room k X.A) (hgd : X.A.guards = some []) (hg : Gl X x) (hx : Passes CX X E) (ha : PA X (e :: es) t) (z : InZ Z X := by exact ⟨rfl, rfl, rfl, rfl, rfl⟩)
    (hdb : (x == ("__debug__" : Str)) = false := by decide) (he : starEach (e :: es) X.env = (false, eval e X.env) :: starEach es X.env := by rfl) (hpl : (backTo pos (starEach es X.env)).any (·.1) = false := by rfl) :
    PE X (.Call (.Name x p) (e :: es) [] pos) (tCall sp [] E t) := by
  obtain ⟨f, fd, G, h1, h2, h3⟩ := c
  obtain ⟨e1, e2, e3, e4, e5⟩ := z
  rw [← e1, ← e2, ← e3, ← e4, ← e5] at G
  rw [← e4] at h1
  rw [← e3] at h2 h3
  refine ⟨fun pins s σ H Q I h => ?_⟩
  refine wpAny_Call_Name_kw (ld_glob I hg h1 ?_ hdb)
  refine PySem.W.callWith_K (h₀ := X.base) I.ok.mod.kin h2 (thn (ha.run pos pins s σ H _ I h) fun us s1 ⟨vs, H1, I1, r, q⟩ => ⟨I1.kIn, ?_⟩) he hpl
  have q : sp (vs ++ []) H1 Q E := q
  rw [List.append_nil] at q
  have hl : us.length = ps.length := r.length.symm.trans (G.len _ _ _ _ q)
  have b := h3 s1 us I1.kIn (by rw [List.append_nil]; exact hl)
  rw [List.append_nil] at b
  refine wpAny_call (codeAny_mono (G.run X.A X.stack s1 H1 ⟨us, []⟩ us vs Q E hr hgd I1.env0 b r q) fun rr s' hq => ?_)
  cases rr with
  | error e => exact hx pins σ H1 s1 e s' I1 hq
  | ok fl =>
    cases fl with
    | ret u => exact I1.after hq
    | next => exact False.elim hq
    | brk => exact False.elim hq
    | cont => exact False.elim hq
end
/-! ### repr -/
section
variable {X : Cx}
theorem reads_flat {h : Heap} {v : Value} {d : PyData} {as : List Addr} (r : Reads h v d as) : (∃ a, v = .ref a) ∨ ∀ a, v ≠ .ref a := by
  cases v <;> first | exact .inl ⟨_, rfl⟩ | exact .inr fun a z => nomatch z
def rRepr (K : PySem.W.Frag) : List V → Hp → VK → Prop := fun xs H Q => ∃ (v : V) (d : PyData), xs = [v] ∧ Dp K H v d ∧ d.showable = true ∧ d.hasDict = false ∧ d.depth ≤ 60 ∧ d.shown.length ≤ sizeLine ∧ Q (.str d.shown) H
theorem call_repr (hg : X.A.guards = some []) (hu : X.A.units + 64 < cLine) : CallR X (.builtin "repr") (rRepr X.K) := by
  intro pins s σ H xs us Q I r h
  obtain ⟨v, d, rfl, hd, hs, hn, hdp, hz, q⟩ := h
  obtain ⟨u, rfl, r1⟩ := vals1 r
  obtain ⟨as, rd⟩ := Dp.reads I d v u hd r1
  rcases reads_flat rd with ⟨a, rfl⟩ | hf
  · exact repr_of_reads' rd hs (PyData.noDict_hsm hn) hg (by omega) (fun _ _ e => e) (fun h' tu tk k => ⟨.str d.shown, H, I.kept (t' := tk) k, ⟨_, rfl⟩, q⟩) hz
  · cases hd with
    | non => cases r1; exact PySem.P.repr_of_none ⟨.str _, H, I.tok _, ⟨_, rfl⟩, q⟩
    | bl b => cases r1; exact PySem.P.repr_of_bool ⟨.str _, H, I.tok _, ⟨_, rfl⟩, q⟩
    | int i => obtain ⟨t, rfl⟩ := r1; exact PySem.P.repr_of_int (of_decide_eq_true hs) ⟨.str _, H, I.tok _, ⟨_, rfl⟩, q⟩
    | str x => obtain ⟨t, rfl⟩ := r1; exact PySem.P.repr_of_str ⟨.str _, H, I.tok _, ⟨_, rfl⟩, q⟩ hz
    | lst _ _ => cases r1; exact absurd rfl (hf _)
    | tup _ _ => cases r1; exact absurd rfl (hf _)
end
/-! ### the end of a law that is called so -/
section
variable {P : Program} {w : World} {K : PySem.W.Frag} {mg mb : Str → Option Value} {CX : CXT} {k : Nat} {fa a : Addr} {fd : FuncData} {x : Str} {sp : Sp} {s : Shared}
/-- the call over an abstract heap that tracks at most the script -/
theorem call_from {H : Hp} (KX : K.In s.heap) (hns : s.heap.Ns mainGlobals mg) (hb : s.heap.Ns builtinsNs mb) (hbb : ∀ x : Str, x ≠ "__name__" → mb x = bootBuiltins x) (hlim : s.heap.NoLimit) (hg : s.gens = #[])
    (hr : Room k callerA) (F : ∀ base : Heap, K.In base → base.Ns mainGlobals mg → FnG P w K mg base CX k fa fd [x] sp) (hbind : ∀ (s : Shared) (u : Value), BindsTo s fd ⟨[u], []⟩ [(x, u)])
    (hsp : sp [.ref a] H (fun v _ => v = .bl true) fun _ _ _ => False) (hCX : ∀ H e s', CX [] H s (fun _ _ _ => False) e s' → False)
    (hO : Only H) (hok : HOk P w H s.heap) (hK : ∀ b o, K.lookup b = some o → H b = none) (hD : ∀ b o es ep, s.heap.get? b = some o → o.data = .dict es ep → H b = none) :
    codeAny (model P w) callerA (.call (.ref fa) ⟨[.ref a], []⟩) (fun r s' => r = .ok (.ret (.bool true)) ∧ OldK s.heap s'.heap ∧ s'.os = s.os ∧ AllBare s'.gens) s := by
  have nsK : ∀ {b : Addr} {m : Str → Option Value}, s.heap.Ns b m → (hidT s.heap H).Ns b m := fun {b m} ⟨o, es, ep, e, d, r⟩ => ⟨o, es, ep, hidT_get e (hD b o es ep e d), d, r⟩
  have hKb : K.In (hidT s.heap H) := fun b o e => hidT_get (KX b o e) (hK b o e)
  obtain ⟨mc, l1, l2⟩ := hlim
  have e0 : Env0 P w K mg (hidT s.heap H) callerA [] s H :=
    ⟨rfl, ⟨hKb, nsK hns, ⟨mb, nsK hb, hbb⟩, ⟨mc, nsK l1, l2⟩⟩, fun b o e => of_hidT e, Nat.le_of_eq (hidT_size _ _), trivial, fun b hb => absurd (show b ∈ ([] : List Addr) from hb) (by simp), hok, .of_eq hg⟩
  refine codeAny_mono ((F _ hKb (nsK hns)).run callerA [] s H ⟨[.ref a], []⟩ [.ref a] [.ref a] _ _ hr rfl e0 (hbind s (.ref a)) (.cons rfl .nil) hsp) fun r s' h => ?_
  cases r with
  | error e => exact (hCX H e s' h).elim
  | ok fl =>
    cases fl with
    | next => exact False.elim h
    | brk => exact False.elim h
    | cont => exact False.elim h
    | ret u =>
      obtain ⟨v, H', os, bare, un, hok', r', q⟩ := h
      obtain rfl : v = .bl true := q
      obtain rfl : u = Value.bool true := r'
      refine ⟨rfl, OldK.of_keep fun b o e => ?_, os, bare⟩
      rcases hO b with z | ⟨ob, xs, z⟩
      · exact un.keep b o e z (fun y => absurd (show b ∈ ([] : List Addr) from y) (by simp)) (by simp)
      · obtain ⟨e1, _⟩ := hok b _ z
        obtain ⟨e2, _⟩ := hok' b _ (un.frzs b ob _ z)
        exact (Option.some.inj (e1.symm.trans e)) ▸ e2
end
theorem walk_G {l : PySem.W.OpenLaw} {n k : Nat} {q : Program} {loose : List Str} {XP : (Str → Option Value) → Heap → Prop} {YP : World → Heap → Prop} {d : DefRec} {CX : CXT} {x : Str}
    (hn : l.most = some n) (hn2 : n ≤ sizeLine) (hdf : d.params.defaults = []) (hr : Room k callerA)
    (F : ∀ (w : World) (mg : Str → Option Value) (fa : Addr) (h : Heap), YP w h → h.Ns mainGlobals mg → mg d.name = some (.ref fa) →
      ∃ (K : PySem.W.Frag) (fd : FuncData) (sp : Sp), K.In h ∧ (∀ (s : Shared) (u : Value), BindsTo s fd ⟨[u], []⟩ [(x, u)]) ∧
        (∀ (H : Hp) (a : Addr) (ns : List Int), ns.length ≤ n → Only H → SqL K H a (ns.map V.int) → sp [.ref a] H (fun v _ => v = .bl true) fun _ _ _ => False) ∧
        ∀ base : Heap, K.In base → base.Ns mainGlobals mg → FnG l.prog w K mg base CX k fa fd [x] sp)
    (hCX : ∀ (H : Hp) (s : Shared) (e : Value) (s' : Shared), CX [] H s (fun _ _ _ => False) e s' → False) :
    PySem.W.WalkO q loose XP YP l.row.toRowW d [] (fun f vs => PySem.call f vs) := by
  refine Att.attach_call hn hdf fun w s₀ s₁ mg mb fa o pm cd doc a vs ns G Y ho hd hcd hmg hobj hints hlen hg => ?_
  obtain ⟨K, fd, sp, KX, hb, hsp, hF⟩ := F w mg fa _ Y G.T.g hmg
  have rv := vals_ints hints
  have hsz : ns.length ≤ sizeLine := Nat.le_trans hlen hn2
  have noD : ∀ b o es ep, s₁.heap.get? b = some o → o.data = .dict es ep → b ≠ a := fun b o es ep e d z => by
    subst z
    rw [hobj] at e
    cases e
    exact nomatch (show Data.seq vs.toArray _ = Data.dict es ep from d)
  cases hk : K.lookup a with
  | some ob =>
    have e := KX a ob hk
    rw [hobj] at e
    cases e
    have hS : SqL K (fun _ => none) a (ns.map V.int) := .inr ⟨_, vs.toArray, _, hk, rfl, rfl, rfl, by rw [List.size_toArray, hints.length]; exact hsz, by simpa using rv⟩
    exact call_from KX G.T.g G.T.b G.T.builtins G.T.nolimit hg hr hF hb (hsp _ a ns hlen (fun _ => .inl rfl) hS) (fun H e s' => hCX H s₁ e s') (fun _ => .inl rfl) (fun b u z => by have z' : (none : Option HO) = some u := z; cases z') (fun _ _ _ => rfl) (fun _ _ _ _ _ _ => rfl)
  | none =>
    have at_ : ∀ b, (if b = a then some (HO.frz { cls := .type "list", data := .seq vs.toArray } (.lst (ns.map V.int))) else none) = none ∨ b = a := fun b => by
      by_cases h : b = a
      · exact .inr h
      · exact .inl (if_neg h)
    have hO : Only (fun b => if b = a then some (HO.frz { cls := .type "list", data := .seq vs.toArray } (.lst (ns.map V.int))) else none) := fun b => by
      by_cases h : b = a
      · exact .inr ⟨_, _, if_pos h⟩
      · exact .inl (if_neg h)
    refine call_from KX G.T.g G.T.b G.T.builtins G.T.nolimit hg hr hF hb (hsp _ a ns hlen hO (.inl (.inr ⟨{ cls := .type "list", data := .seq vs.toArray }, if_pos rfl⟩))) (fun H e s' => hCX H s₁ e s') hO (fun b u z => ?_) (fun b o e => ?_) (fun b o es ep e d => if_neg (noD b o es ep e d))
    · by_cases h : b = a
      · subst h
        cases (if_pos rfl).symm.trans z
        exact ⟨hobj, by rw [List.length_map]; exact hsz, vs, _, rv, hobj⟩
      · cases (if_neg h).symm.trans z
    · refine if_neg fun z => ?_
      subst z
      rw [hk] at e
      cases e
end Ps

/-! Texts: str, repr, bool of instances with own defs; replace behind a text. -/
namespace Ps
open PySem PySem.Spec PySem.Calls PyProof.Rows PySem.W L2
section
variable {prog : Program} {w : World} {A : Around} {E : Value → Shared → Prop} {s : Shared} {K : Frag} {x C f : Addr} {ox : Obj} {od : Option Obj}
theorem truthyO {M : Model} {Q : Bool → Shared → Prop} (X : K.In s.heap) (I : InstAt s.heap x ox C od) (hs : findIn K (.ref C) "__bool__" = some (some (.ref f))) (hf : isFn K (.ref f) = true)
    (h : wpAny M A (call (.ref f) [.ref x]) (W.BoolBack Q) E s) : wpAny M A (truthy (.ref x)) Q E s := by
  unfold truthy
  refine wpAny_bind (m := callSpecial? (.ref x) (Str.ofString "__bool__")) (special_fn X I hs (beq_iff_eq.mp hf) (wpAny_mono h (fun r s' hr => ?_) fun _ _ y => y))
  cases r <;> first | exact hr.elim | skip
  exact wpAny_pure hr
theorem boolO {Q : Value → Shared → Prop} (X : K.In s.heap) (I : InstAt s.heap x ox C od) (hs : findIn K (.ref C) "__bool__" = some (some (.ref f))) (hf : isFn K (.ref f) = true)
    (h : wpAny (model prog w) A.in1.in1 (call (.ref f) [.ref x]) (W.BoolBack fun b s' => Q (.bool b) s') E s) : wpAny (model prog w) A (call (.type "bool") [.ref x]) Q E s := by
  refine callType_codes (T := "bool") (Bi := Builtin.«object.__init__») (Q₁ := fun r s₁ => ∃ b, r = .bool b ∧ Q r s₁) PySem.F.called_bool (PySem.F.typeCall_bool_1 _) PySem.F.entry_object_init ?_ ?_
  · refine codeAny_of_tree ?_
    show wpAny _ A.in1.in1 (do checkBuiltinCall "bool.__new__" ⟨[.type "bool", .ref x], []⟩; again (.builtin "bool.__new__" ⟨[.type "bool", .ref x], []⟩)) _ _ s
    refine wpAny_bind (wpAny_of_eq (PySem.F.newCall_bool_1 _) (wpAny_pure ⟨plainId_quiet (by decide +kernel) _, codeAny_builtin PySem.F.entry_bool_new ?_⟩))
    rw [Around.under_plainId (by decide +kernel) _]
    unfold Builtin.«bool.__new__»
    refine wpAny_bind (wpAny_pure ?_)
    refine wpAny_bind (wpAny_of_eq PySem.F.conv_sub_bool ?_)
    refine wpAny_bind (wpAny_pure ?_)
    refine wpAny_bind (truthyO X I hs hf (wpAny_mono h (fun r s₁ hr => ?_) fun _ _ y => y))
    cases r <;> first | exact hr.elim | exact wpAny_pure ⟨_, rfl, hr⟩
  · rintro obj s₁ ⟨b, rfl, hq⟩
    exact ⟨PySem.typeIs_bool _ _, PySem.F.args_object_init_2 _ _, object_init_meets PySem.F.called_bool.init.lookup PySem.F.called_bool.made (by decide) prog w A.in1 _ s₁ ⟨PySem.typeIs_bool _ _, rfl, hq⟩⟩
theorem reprO {Q : Value → Shared → Prop} (hu : A.in1.units < cLine) (X : K.In s.heap) (I : InstAt s.heap x ox C od) (hs : findIn K (.ref C) "__repr__" = some (some (.ref f))) (hf : isFn K (.ref f) = true)
    (h : wpAny (model prog w) A.in1 (call (.ref f) [.ref x]) (StrBack Q) E s) : wpAny (model prog w) A (call (.builtin "repr") [.ref x]) Q E s := by
  refine Calls.call_function_entry PySem.F.kind_repr PySem.F.plain_repr PySem.F.entry_repr (PySem.F.args_repr1 _) ?_
  unfold Builtin.«repr»
  refine wpAny_bind (m := oneArg "repr" _) (wpAny_pure ?_)
  refine wpAny_bind (wpAny_cRoomFor hu ?_)
  refine wpAny_bind (wpAny_bind (I.type.here ((looks_findIn X hs).here ?_)))
  show wpAny _ _ (if (some (Value.ref f)).isNone = true then _ else _) _ _ _
  rw [if_neg (by simp)]
  refine wpAny_bind (m := callSpecialIfBound? (.ref x) (Str.ofString "__repr__") _) (ifBound_K X I hs hf (wpAny_mono h (fun r s' hr => ?_) fun _ _ y => y))
  cases r <;> first | exact hr.elim | skip
  refine wpAny_bind (wpAny_isInstance (typeIs_str _ _ _) isSubtype_str_str ?_)
  first
    | exact wpAny_pure ⟨_, rfl, hr⟩
    | (rw [if_pos rfl]; exact wpAny_pure ⟨_, rfl, hr⟩)
    | (simp only [if_true]; exact wpAny_pure ⟨_, rfl, hr⟩)
end
section
variable {X : Cx} {Z : Cz} {CX : CXT} {k : Nat} {C f : Addr} {fd : FuncData} {ps : List Str} {sp : Sp} {E : XK}
theorem run_fn2 {pins : List (Addr × Obj)} {σ : L2.St} {H : Hp} {s : Shared} {Q : VK} {us : List Value} {vs : List V} (F : FnOk X.prog X.w X.K X.mg X.base CX k f fd ps sp) (hr : Room (k + 1 + 1) X.A) (hb : Binds X.K fd ps []) (hx : Passes CX X E)
    (I : L2.Inv X pins σ H s) (r : Vals vs us) (h : sp vs H Q E) : wpAny (model X.prog X.w) X.A.in1.in1 (call (.ref f) us) (EP X pins σ Q) X.xe s := by
  have hl : (us ++ []).length = ps.length := by rw [List.append_nil, ← r.length]; exact F.len _ _ _ _ h
  have hb' := hb s us I.kIn hl
  rw [List.append_nil] at hb'
  refine wpAny_call (codeAny_mono (F.run X.A.in1.in1 X.stack s H ⟨us, []⟩ us vs Q E hr.in1.in1 I.env0.in1.in1 hb' r h) fun r s' hq => ?_)
  cases r with
  | error e => exact hx pins σ H s e s' I hq
  | ok fl =>
    cases fl with
    | ret u => exact I.after hq
    | next => exact False.elim hq
    | brk => exact False.elim hq
    | cont => exact False.elim hq
/-- the def's own end, a text -/
def toStr (Q : VK) : VK := fun v H => ∃ z, v = .str z ∧ Q v H
def toBl (Q : VK) : VK := fun v H => ∃ b, v = .bl b ∧ Q v H
theorem strBack {pins : List (Addr × Obj)} {σ : L2.St} {Q : VK} {v : Value} {s : Shared} (h : EP X pins σ (toStr Q) v s) : StrBack (EP X pins σ Q) v s := by
  obtain ⟨x, H1, I1, r1, z, rfl, q⟩ := h
  obtain ⟨t, rfl⟩ := r1
  exact ⟨.str z, H1, I1, ⟨t, rfl⟩, q⟩
theorem blBack {pins : List (Addr × Obj)} {σ : L2.St} {Q : VK} {v : Value} {s : Shared} (h : EP X pins σ (toBl Q) v s) : W.BoolBack (fun b s' => EP X pins σ Q (.bool b) s') v s := by
  obtain ⟨x, H1, I1, r1, z, rfl, q⟩ := h
  cases r1
  exact ⟨.bl z, H1, I1, rfl, q⟩
def rOwn1 (C : Addr) (sp : Sp) (E : XK) (to : VK → VK) : List V → Hp → VK → Prop := fun xs H Q => ∃ x, xs = [x] ∧ InsC C H x ∧ sp [x] H (to Q) E
theorem str_cal (c : CalS Z CX k C "__str__" ps sp) (hr : Room (k + 1 + 1) X.A) (hx : Passes CX X E) (z : InZ Z X := by exact ⟨rfl, rfl, rfl, rfl, rfl⟩) : CallR X (.type "str") (rOwn1 C sp E toStr) := by
  obtain ⟨f, fd, G, O, hb⟩ := c
  rw [← z.K] at O hb
  intro pins s σ H xs us Q I r h
  obtain ⟨x, rfl, ⟨a, dx, fs, rfl, ha⟩, h⟩ := h
  obtain ⟨u, rfl, r1⟩ := vals1 r
  cases (show u = Value.ref a from r1)
  obtain ⟨mA, J, _⟩ := ins_get I.hok ha
  obtain ⟨od, J, _⟩ := J.look
  refine kso_call (by have := hr.un; show X.A.units + 1 + 1 < _; omega) I.kIn J O.fn O.isf (wpAny_mono (run_fn2 (us := [.ref a]) (vs := [.ref a]) (z.ok G) hr hb hx I (.cons rfl .nil) h) (fun v s' q => strBack q) fun _ _ z => z)
theorem repr_cal (c : CalS Z CX k C "__repr__" ps sp) (hr : Room (k + 1) X.A) (hx : Passes CX X E) (z : InZ Z X := by exact ⟨rfl, rfl, rfl, rfl, rfl⟩) : CallR X (.builtin "repr") (rOwn1 C sp E toStr) := by
  obtain ⟨f, fd, G, O, hb⟩ := c
  rw [← z.K] at O hb
  intro pins s σ H xs us Q I r h
  obtain ⟨x, rfl, ⟨a, dx, fs, rfl, ha⟩, h⟩ := h
  obtain ⟨u, rfl, r1⟩ := vals1 r
  cases (show u = Value.ref a from r1)
  obtain ⟨mA, J, _⟩ := ins_get I.hok ha
  obtain ⟨od, J, _⟩ := J.look
  refine reprO (by have := hr.un; show X.A.units + 1 < _; omega) I.kIn J O.fn O.isf (wpAny_mono (run_fn1 (us := [.ref a]) (vs := [.ref a]) (z.ok G) hr hb hx I (.cons rfl .nil) h) (fun v s' q => strBack q) fun _ _ z => z)
theorem bool_cal (c : CalS Z CX k C "__bool__" ps sp) (hr : Room (k + 1 + 1) X.A) (hx : Passes CX X E) (z : InZ Z X := by exact ⟨rfl, rfl, rfl, rfl, rfl⟩) : CallR X (.type "bool") (rOwn1 C sp E toBl) := by
  obtain ⟨f, fd, G, O, hb⟩ := c
  rw [← z.K] at O hb
  intro pins s σ H xs us Q I r h
  obtain ⟨x, rfl, ⟨a, dx, fs, rfl, ha⟩, h⟩ := h
  obtain ⟨u, rfl, r1⟩ := vals1 r
  cases (show u = Value.ref a from r1)
  obtain ⟨mA, J, _⟩ := ins_get I.hok ha
  obtain ⟨od, J, _⟩ := J.look
  refine boolO I.kIn J O.fn O.isf (wpAny_mono (run_fn2 (us := [.ref a]) (vs := [.ref a]) (z.ok G) hr hb hx I (.cons rfl .nil) h) (fun v s' q => blBack q) fun _ _ z => z)
end
/-! ### items behind a written text: a token is out -/
def PAT (X : Cx) (es : List Expr) (t : TA) : Prop := ∀ (pos : Pos) (pins : List (Addr × Obj)) (s : Shared) (σ : L2.St) (H : Hp) (Q : List V → Hp → Prop), 1 ≤ s.toks → L2.Inv X pins σ H s → t σ H Q → wpAny (model X.prog X.w) X.A (spliced (backTo pos (starEach es X.env))) (AP X pins σ Q) X.xe s
section
variable {X : Cx} {e f : Expr} {es : List Expr} {te tf : TE} {t : TA} {x : Str} {j : Nat} {p pos : Pos}
theorem pat_nil : PAT X [] tNil := fun pos pins s σ H Q _ I h => pa_nil.run pos pins s σ H Q I h
theorem pat_cons (ha : PET X e te) (hr : PAT X es t) (hs : starEach (e :: es) X.env = (false, eval e X.env) :: starEach es X.env := by rfl) : PAT X (e :: es) (tCons te t) := by
  intro pos pins s σ H Q h0 I h
  rw [hs]
  show wpAny _ _ (spliced ((false, eval e X.env) :: backTo pos (starEach es X.env))) _ _ s
  refine Calls.spliced_cons (wpAny_mono (PySem.wpAny_toks (ha pins s σ H _ h0 I h)) (fun u s1 q => ?_) fun _ _ z => z.2)
  obtain ⟨hk, x, H1, I1, r1, q1⟩ := q
  exact thn (hr pos pins s1 σ H1 _ (Nat.le_trans h0 hk) I1 q1) fun us s2 ⟨xs, H2, I2, r2, q2⟩ => ⟨x :: xs, H2, I2, .cons r1 r2, q2⟩
/-- the first item begins with a written text -/
theorem pa_litCons {op : Operator} {r : R2} (ho : OpR X (binaryOp op) r) (hb : PE X f tf) (hr : PAT X es t) (hs : starEach (.BinOp (.Constant (.str x) j p) op f pos :: es) X.env = (false, eval (.BinOp (.Constant (.str x) j p) op f pos) X.env) :: starEach es X.env := by rfl) :
    PA X (.BinOp (.Constant (.str x) j p) op f pos :: es) (tCons (tOp r (tC (.str x)) tf) t) := by
  refine ⟨fun pos pins s σ H Q I h => ?_⟩
  rw [hs]
  show wpAny _ _ (spliced ((false, eval _ X.env) :: backTo pos (starEach es X.env))) _ _ s
  refine Calls.spliced_cons (wpAny_BinOp (Calls.Constant_str ?_))
  refine wpAny_mono (PySem.wpAny_toks (hb.run pins { s with toks := s.toks + 1 } σ H _ (I.tok _) h)) (fun u s1 q => ?_) fun _ _ z => z.2
  obtain ⟨hk, y, H1, I1, r1, q1⟩ := q
  refine wpAny_mono (PySem.wpAny_toks (ho pins s1 σ H1 (.str x) y _ u _ I1 ⟨_, rfl⟩ r1 q1)) (fun u s2 q => ?_) fun _ _ z => z.2
  obtain ⟨hk2, z, H2, I2, r2, q2⟩ := q
  have h1 : 1 ≤ s2.toks := Nat.le_trans (Nat.le_trans (by show 1 ≤ s.toks + 1; omega) hk) hk2
  exact thn (hr pos pins s2 σ H2 _ h1 I2 q2) fun us s3 ⟨xs, H3, I3, r3, q3⟩ => ⟨z :: xs, H3, I3, .cons r2 r3, q3⟩
end
end Ps

/-! Shares as texts: the plain laws, over lists of signs. -/
namespace Ps
open PySem PySem.Spec PyProof.Rows PySem.W L2 TL Builtin Builtin.Str

def st (i : Int) : PySem.Str := PySem.Str.ofString (toString i)
def wr (q : Int × Int) : PySem.Str := if q.2 = 1 then st q.1 else st q.1 ++ PySem.Str.ofString "/" ++ st q.2
def stL (i : Int) : List Nat := if i < 0 then 45 :: numL i.natAbs else numL i.natAbs
def wrL (q : Int × Int) : List Nat := if q.2 = 1 then stL q.1 else stL q.1 ++ 47 :: stL q.2
theorem tl_st (i : Int) : tl (st i) = stL i := by
  unfold st stL
  by_cases h : i < 0
  · rw [if_pos h, tl_ofString, toString_neg h, String.toList_append, List.map_append]
    have e : (0 - i) = ((i.natAbs : Nat) : Int) := by omega
    rw [e, ← tl_ofString (toString ((i.natAbs : Nat) : Int)), tl_num]
    rfl
  · rw [if_neg h]
    have e : i = ((i.natAbs : Nat) : Int) := by omega
    have := tl_num i.natAbs
    rw [← e] at this
    exact this
theorem tl_slash : tl (PySem.Str.ofString "/") = [47] := by decide +kernel
theorem tl_wr (q : Int × Int) : tl (wr q) = wrL q := by
  unfold wr wrL
  by_cases h : q.2 = 1
  · rw [if_pos h, if_pos h, tl_st]
  · rw [if_neg h, if_neg h, tl_append, tl_append, tl_st, tl_st, tl_slash, List.append_assoc]
    rfl
def dig (c : Nat) : Bool := decide (48 ≤ c) && decide (c ≤ 57)
def isWL : List Nat → Bool
  | [] => false
  | c :: r => (c :: r).all dig && (r.isEmpty || !(decide (c = 48)))
def valL (p : List Nat) : Int := (NumText.digitsVal p : Nat)
def noSign : List Nat → List Nat
  | 45 :: r => r
  | l => l
def pfGo (l a : List Nat) (u : Int) : Option (Int × Int) :=
  let q := low (if l.head? = some 45 then -valL a else valL a) u
  if wrL q = l then some q else none
def pfL (l : List Nat) : Option (Int × Int) := match spl [47] 0 [] (noSign l) with
  | [a] => if isWL a = true then pfGo l a 1 else none
  | [a, b] => if (isWL a && isWL b) = true then (if valL b = 0 then none else pfGo l a (valL b)) else none
  | _ => none
theorem tl_sign : tl (PySem.Str.ofString "-") = [45] := by decide +kernel
theorem sub_sign (x : PySem.Str) : subAt x (PySem.Str.ofString "-") 0 = decide ((tl x).head? = some 45) := by
  unfold subAt
  have e : (PySem.Str.ofString "-").cps = #[45] := by decide +kernel
  have e1 : (PySem.Str.ofString "-").length = 1 := by decide +kernel
  rw [e, e1]
  obtain ⟨⟨l⟩⟩ := x
  cases l with
  | nil => rfl
  | cons c r =>
    show (Array.extract ⟨c :: r⟩ 0 (0 + 1) == #[45]) = decide (some c = some 45)
    have e2 : Array.extract ⟨c :: r⟩ 0 (0 + 1) = #[c] := by
      apply Array.toList_inj.mp
      rw [Array.toList_extract]
      rfl
    rw [e2]
    by_cases h : c = 45
    · subst h; rfl
    · rw [decide_eq_false (fun z => h (Option.some.inj z))]
      exact beq_eq_false_iff_ne.mpr (fun z => h (by simpa using z))
theorem starts_sign (x : PySem.Str) : Txt.startswith x (PySem.Str.ofString "-") = decide ((tl x).head? = some 45) := by
  unfold Txt.startswith
  rw [sub_sign]
  have e1 : (PySem.Str.ofString "-").length = 1 := by decide +kernel
  rw [e1]
  obtain ⟨⟨l⟩⟩ := x
  cases l with
  | nil => rfl
  | cons c r =>
    have : decide (0 + 1 ≤ (⟨⟨c :: r⟩⟩ : PySem.Str).length) = true := by simp [PySem.Str.length]
    rw [this, Bool.true_and]
theorem tl_rem (x : PySem.Str) : tl (Txt.removeprefix x (PySem.Str.ofString "-")) = noSign (tl x) := by
  unfold Txt.removeprefix
  rw [sub_sign]
  have e1 : (PySem.Str.ofString "-").length = 1 := by decide +kernel
  rw [e1]
  by_cases h : (tl x).head? = some 45
  · rw [decide_eq_true h, if_pos rfl]
    unfold Txt.affix
    have hl : (x.length - 1 == x.length) = false := by
      rw [len_tl]
      cases e : tl x with
      | nil => rw [e] at h; cases h
      | cons c r => simp
    show tl (if (x.length - 1 == x.length) = true then x else strSub x 1 x.length) = _
    rw [hl, if_neg (by simp), tl_strSub_end]
    cases e : tl x with
    | nil => rw [e] at h; cases h
    | cons c r =>
      rw [e] at h
      obtain rfl : c = 45 := by simpa using h
      rfl
  · rw [decide_eq_false h, if_neg (by simp)]
    show tl x = _
    cases e : tl x with
    | nil => rfl
    | cons c r =>
      rw [e] at h
      have hc : c ≠ 45 := fun z => h (by rw [z]; rfl)
      unfold noSign
      split
      · rename_i h2; exact absurd (List.cons.inj h2).1 hc
      · rfl
theorem tl_split (x : PySem.Str) : (Txt.split (Txt.removeprefix x (PySem.Str.ofString "-")) (PySem.Str.ofString "/")).map tl = spl [47] 0 [] (noSign (tl x)) := by
  rw [split_spl _ _ (by rw [tl_slash]; simp) (kind_ok (by decide +kernel)), tl_slash, tl_rem]
theorem tl_dbl (x : PySem.Str) : tl (Txt.replace x (PySem.Str.ofString "/") (PySem.Str.ofString "//")) = StrLaws.dbl 47 (tl x) := by
  have e1 : PySem.Str.ofString "/" = ⟨#[47]⟩ := by decide +kernel
  have e2 : PySem.Str.ofString "//" = ⟨#[47, 47]⟩ := by decide +kernel
  rw [e1, e2]
  exact StrLaws.replace_double x 47
/-! ### what is read -/
theorem pf_go {l a : List Nat} {u : Int} {q : Int × Int} (h : pfGo l a u = some q) : wrL q = l := by
  unfold pfGo at h
  dsimp only at h
  generalize low (if l.head? = some 45 then -valL a else valL a) u = r at h
  by_cases hw : wrL r = l
  · rw [if_pos hw] at h
    rw [← Option.some.inj h]
    exact hw
  · rw [if_neg hw] at h
    cases h
theorem pf_wr {l : List Nat} {q : Int × Int} (h : pfL l = some q) : wrL q = l := by
  unfold pfL at h
  split at h
  · split at h
    · exact pf_go h
    · cases h
  · split at h
    · split at h
      · cases h
      · exact pf_go h
    · cases h
  · cases h
end Ps

/-! Shares as texts: the finite checks. -/
namespace Ps
open PySem PySem.Spec PyProof.Rows PySem.W L2 TL Builtin Builtin.Str
/-! ### the bent texts -/
def bents (l : List Nat) : List (List Nat) := [l, 32 :: l, l ++ [47, 49], 43 :: l, 48 :: l, l ++ [47], 45 :: l, StrLaws.dbl 47 l]
def inR (o : Option (Int × Int)) : Bool := match o with
  | none => true
  | some q => decide (-31 ≤ q.1) && (decide (q.1 ≤ 31) && (decide (1 ≤ q.2) && (decide (q.2 ≤ 31) && decide (low q.1 q.2 = q))))
def chkB (t u : Int) : Bool := (bents (wrL (low t u))).all fun x => inR (pfL x)
def chkS (t u : Int) : Bool := !(decide (low t u = (t, u))) || decide (pfL (wrL (t, u)) = some (t, u))
theorem chkB_0 : ∀ t : Fin 61, ∀ u : Fin 30, chkB ((t.val : Int) - 30) ((u.val : Int) + 1) = true := by decide +kernel
theorem chkS_0 : ∀ t : Fin 63, ∀ u : Fin 31, chkS ((t.val : Int) - 31) ((u.val : Int) + 1) = true := by decide +kernel
theorem bent_in {t u : Int} (t0 : -30 ≤ t) (t1 : t ≤ 30) (u0 : 1 ≤ u) (u1 : u ≤ 30) {l : List Nat} (h : l ∈ bents (wrL (low t u))) : inR (pfL l) = true := by
  have := chkB_0 ⟨(t + 30).toNat, by omega⟩ ⟨(u - 1).toNat, by omega⟩
  rw [show ((((t + 30).toNat : Nat) : Int) - 30) = t by omega, show ((((u - 1).toNat : Nat) : Int) + 1) = u by omega] at this
  exact List.all_eq_true.mp this l h
theorem pf_self {t u : Int} (t0 : -31 ≤ t) (t1 : t ≤ 31) (u0 : 1 ≤ u) (u1 : u ≤ 31) (h : low t u = (t, u)) : pfL (wrL (t, u)) = some (t, u) := by
  have := chkS_0 ⟨(t + 31).toNat, by omega⟩ ⟨(u - 1).toNat, by omega⟩
  rw [show ((((t + 31).toNat : Nat) : Int) - 31) = t by omega, show ((((u - 1).toNat : Nat) : Int) + 1) = u by omega] at this
  unfold chkS at this
  rw [decide_eq_true h] at this
  simpa using this
end Ps

/-! Words of laws that raise and tell. -/
namespace Ps
open PySem PySem.Spec PyProof.Rows PySem.W L2

theorem Same.tup {K : Frag} {H H' : Hp} {a : Addr} {xs : List V} (e : Same H H') (h : SqT K H a xs) : SqT K H' a xs := h.ext (by exact e)
theorem cxUpN {P : Program} {w : World} : StX.CXUp (L2N.CX P w) := by
  rintro outer s H s2 H2 E e s' un kp ho ⟨a, B, H', cls, d, ea, fl, hok, ub, na, os, ag, he⟩
  have fr : ∀ b o, s.heap.get? b = some o → H b = none → H2 b = none := fun b o q n => un.free b o q n (by simp)
  have ub' : UB (frs outer) H H' s.heap B s'.heap :=
    { keep := fun b o q n hb => ub.keep b o (kp b o q) (fr b o q n) hb, slot := fun b o q hb => ub.slot b o (kp b o q) hb, free := fun b o q n => ub.free b o (kp b o q) (fr b o q n), there := fun b o q hb => ub.there b o (kp b o q) hb,
      tups := fun b xs q => ub.tups b xs (un.tups b xs q), frzs := fun b o xs q => ub.frzs b o xs (un.frzs b o xs q),
      tbls := fun b ps q => by
        obtain ⟨m1, e1⟩ := un.tbls b ps q
        obtain ⟨m2, e2⟩ := ub.tbls b _ e1
        exact ⟨m1 ++ m2, by rw [e2, Array.append_assoc]⟩ }
  exact ⟨a, B, H', cls, d, ea, fl, hok, ub', na, os.trans ho, ag, he⟩
theorem pe_never {X : Cx} {e : Expr} : PE X e (fun _ _ _ => False) := ⟨fun _ _ _ _ _ _ h => h.elim⟩
mutual
theorem Dp.mono {K : Frag} {H H' : Hp} (e : Same H H') : ∀ {v : V} {d : PyData}, Dp K H v d → Dp K H' v d
  | _, _, .non => .non
  | _, _, .bl b => .bl b
  | _, _, .int i => .int i
  | _, _, .str x => .str x
  | _, _, .lst h a => .lst (e.seq h) (DpAll.mono e a)
  | _, _, .tup h a => .tup (Same.tup e h) (DpAll.mono e a)
theorem DpAll.mono {K : Frag} {H H' : Hp} (e : Same H H') : ∀ {vs : List V} {ds : List PyData}, DpAll K H vs ds → DpAll K H' vs ds
  | _, _, .nil => .nil
  | _, _, .cons h a => .cons (Dp.mono e h) (DpAll.mono e a)
end
/-- data whose repr is told -/
structure Rp (d : PyData) : Prop where
  show_ : d.showable = true
  nod : d.hasDict = false
  dep : d.depth ≤ 50
  len : d.shown.length ≤ 2000
theorem Rp.d60 {d : PyData} (h : Rp d) : d.depth ≤ 60 := Nat.le_trans h.dep (by decide)
theorem Rp.sz {d : PyData} (h : Rp d) : d.shown.length ≤ sizeLine := Nat.le_trans h.len (Nat.le_of_lt (small1000' (by decide)))
theorem takesN0 {X : Cx} : L2N.Takes X (fun _ _ _ _ => False) := fun _ _ x => by
  obtain ⟨_, _, _, _, _, _, _, _, _, _, _, _, _, _, _, _, z⟩ := x
  exact z.elim
theorem lookup_one {fl : Str} {v : V} : List.lookup fl [(fl, v)] = some v := by simp [List.lookup]
def rpB (d : PyData) : Bool := d.showable && (!d.hasDict && (decide (d.depth ≤ 50) && decide (d.shown.length ≤ 2000)))
theorem rpB_ok {d : PyData} (h : rpB d = true) : Rp d := by
  unfold rpB at h
  simp only [Bool.and_eq_true, Bool.not_eq_true', decide_eq_true_eq] at h
  exact ⟨h.1, h.2.1, h.2.2.1, h.2.2.2⟩
/-- an error of the class at C with the field fl is raised -/
def Rz (C : Addr) (fl : Str) (v : V) (H : Hp) (E : XK) : Prop := ∀ d H', Same H H' → H d = none → H' d = some (.xd [(fl, v)]) → E (.ref C) (some d) H'
theorem Rz.later {C : Addr} {fl : Str} {v : V} {H H1 : Hp} {E : XK} (h : Rz C fl v H E) (e : Same H H1) : Rz C fl v H1 E := fun d H' e' hd hx => h d H' (e.trans e') (e.free hd) hx
theorem Rz.now {C : Addr} {fl : Str} {v : V} {H : Hp} {E : XK} (h : Rz C fl v H E) : ∀ d, H d = none → E (.ref C) (some d) (L2.upd H d (.xd [(fl, v)])) := fun d hd => h d _ (Same.upd hd) hd upd_same
/-- a def called by its address -/
theorem FnOk.toR {P : Program} {w : World} {K : Frag} {mg : Str → Option Value} {base : Heap} {CX : CXT} {k : Nat} {f : Addr} {fd : FuncData} {ps : List Str} {sp : Sp} (F : FnOk P w K mg base CX k f fd ps sp) (hb : Binds K fd ps []) : FnR P w K mg base CX k f sp := by
  intro A outer s H us vs Q E hr e0 r h
  have hl : (us ++ []).length = ps.length := by rw [List.append_nil, ← r.length]; exact F.len _ _ _ _ h
  have hb' := hb s us (fun b o e => (e0.bs b o (e0.mod.kin b o e)).1) hl
  rw [List.append_nil] at hb'
  exact F.run A outer s H ⟨us, []⟩ us vs Q E hr e0 hb' r h
end Ps

/-! Shares as texts: the defs. -/
namespace Ps
open PySem PySem.Spec PyProof.Rows PySem.W L2 TL

theorem log_lt {n : Nat} (h : n < 2 ^ 1000) : n.log2 < 1000 := by
  by_cases h0 : n = 0
  · subst h0
    decide
  · exact (Nat.log2_lt h0).mpr h
theorem st_len {i : Int} (h : i.natAbs < 2 ^ 1000) : (st i).length ≤ 1001 := by
  have := int_text_length_le (a := i) (k := 1000) (by decide) (log_lt h)
  unfold st
  rw [PySem.ofString_length]
  exact this
theorem big {n : Nat} (h : n ≤ 100000) : n ≤ sizeLine := Nat.le_of_lt (small1000' h)
theorem len_slash : (PySem.Str.ofString "/").length = 1 := by decide +kernel
theorem empty_app (d : PySem.Str) : PySem.Str.empty ++ d = d := ext_tl (by rw [tl_append]; rfl)
/-- a share's own text -/
def spTxt (C : Addr) (g : Int × Int → PySem.Str) : Sp := fun vs H Q _ => ∃ x q, vs = [x] ∧ Sh C H x q ∧ Sz 1000 q ∧ Q (.str (g q)) H
def rp (q : Int × Int) : PySem.Str := PySem.Str.ofString "Share(" ++ st q.1 ++ PySem.Str.ofString ", " ++ st q.2 ++ PySem.Str.ofString ")"
/-- what a text's defs ask of the top -/
structure TxT (Z : Cz) : Prop where
  str : Z.mg "str" = none
  all : Z.mg "all" = none
  repr : Z.mg "repr" = none
  len : Z.mg "len" = none
  fig : ∃ t, Z.mg "FIGURES" = some (.str (PySem.Str.ofString "0123456789") t)
section
variable {Z : Cz} {f C CB P fB : Addr} {fd : FuncData}
theorem ok_str (F : Fun Z.K "__str__" "Share.__str__" s_Share_dd_str f fd) (T : ShT Z C) (Y : TxT Z) : Z.ok CX0 1 f fd ["self"] (spTxt C wr) := by
  refine F.ok sc_Share_dd_str (fun vs H Q E h => ?_) (fun cdv A outer s H vs Q E hr h => ?_)
  · obtain ⟨x, q, rfl, _⟩ := h
    rfl
  · obtain ⟨x, q, rfl, ⟨a, dx, rfl, ha⟩, hq, k⟩ := h
    refine ⟨_, (pss_cons (ps_if (pt_cmpR op_eq (pe_fld (pv 0) rfl) pe_int (nomark _))
      (pss_one (ps_ret (pe_callTy call_str_int (by rfl) Y.str (by decide +kernel) (pa_cons (pe_fld (pv 0) rfl) pa_nil))))
      pss_nil)
      (pss_one (ps_ret (pe_joined (PJ.cons (pe_fmt (pe_fld (pv 0) rfl)) (PJ.cons pe_str (PJ.cons (pe_fmt (pe_fld (pv 0) rfl)) PJ.nil))))))), ?_⟩
    have l1 : q.1.natAbs.log2 < 1920 := Nat.lt_trans (log_lt hq.t) (by decide)
    have l2 : q.2.natAbs.log2 < 1920 := Nat.lt_trans (log_lt hq.u) (by decide)
    have e1 := st_len hq.t
    have e2 := st_len hq.u
    refine ⟨_, rfl, a, C, dx, _, _, rfl, ha, T.cl, T.nU, shF_under _ _, rfl, _, rfl, ?_⟩
    by_cases h1 : q.2 = 1
    · rw [decide_eq_true (show V.int q.2 = V.int 1 by rw [h1])]
      refine iteT ?_
      have e : wr q = st q.1 := by unfold wr; rw [if_pos h1]
      rw [e] at k
      exact ⟨_, rfl, a, C, dx, _, _, rfl, ha, T.cl, T.nT, shF_top _ _, _, rfl, l1, k⟩
    · rw [decide_eq_false (vne h1)]
      refine iteF ?_
      have e : wr q = (PySem.Str.empty ++ st q.1) ++ PySem.Str.ofString "/" ++ st q.2 := by unfold wr; rw [if_neg h1, empty_app]
      rw [e] at k
      refine ⟨_, rfl, a, C, dx, _, _, rfl, ha, T.cl, T.nT, shF_top _ _, .inr ⟨_, rfl, l1, _, rfl, ?_, _, rfl, ?_, ?_⟩⟩
      · exact big (by rw [show ((toString q.1 : String) : PySem.Str) = st q.1 from rfl, empty_app]; omega)
      · exact big (by rw [show ((toString q.1 : String) : PySem.Str) = st q.1 from rfl, empty_app, Str.length_append, len_slash]; omega)
      · refine ⟨_, rfl, a, C, dx, _, _, rfl, ha, T.cl, T.nU, shF_under _ _, .inr ⟨_, rfl, l2, _, rfl, ?_, k⟩⟩
        exact big (by rw [show ((toString q.1 : String) : PySem.Str) = st q.1 from rfl, show ((toString q.2 : String) : PySem.Str) = st q.2 from rfl, empty_app, Str.length_append, Str.length_append, len_slash]; omega)
theorem ok_bool (F : Fun Z.K "__bool__" "Share.__bool__" s_Share_dd_bool f fd) (T : ShT Z C) : Z.ok CX0 1 f fd ["self"] (spGet C 9000 fun q => .bl (q.1 != 0)) := by
  refine F.ok sc_Share_dd_bool (fun vs H Q E h => ?_) (fun cdv A outer s H vs Q E hr h => ?_)
  · obtain ⟨x, q, rfl, _⟩ := h
    rfl
  · obtain ⟨x, q, rfl, ⟨a, dx, rfl, ha⟩, hq, k⟩ := h
    exact ⟨_, (pss_one (ps_ret (pe_callTy call_bool1 (by rfl) T.bool (by decide +kernel) (pa_cons (pe_fld (pv 0) rfl) pa_nil)))), _, rfl, a, C, dx, _, _, rfl, ha, T.cl, T.nT, shF_top _ _, .inl ⟨_, rfl, k⟩⟩
theorem len_rp1 : (PySem.Str.ofString "Share(").length = 6 := by decide +kernel
theorem len_rp2 : (PySem.Str.ofString ", ").length = 2 := by decide +kernel
theorem len_rp3 : (PySem.Str.ofString ")").length = 1 := by decide +kernel
theorem ok_repr (F : Fun Z.K "__repr__" "Share.__repr__" s_Share_dd_repr f fd) (T : ShT Z C) : Z.ok CX0 1 f fd ["self"] (spTxt C rp) := by
  refine F.ok sc_Share_dd_repr (fun vs H Q E h => ?_) (fun cdv A outer s H vs Q E hr h => ?_)
  · obtain ⟨x, q, rfl, _⟩ := h
    rfl
  · obtain ⟨x, q, rfl, ⟨a, dx, rfl, ha⟩, hq, k⟩ := h
    refine ⟨_, (pss_one (ps_ret (pe_joined (PJ.cons pe_str (PJ.cons (pe_fmt (pe_fld (pv 0) rfl)) (PJ.cons pe_str (PJ.cons (pe_fmt (pe_fld (pv 0) rfl)) (PJ.cons pe_str PJ.nil)))))))), ?_⟩
    have l1 : q.1.natAbs.log2 < 1920 := Nat.lt_trans (log_lt hq.t) (by decide)
    have l2 : q.2.natAbs.log2 < 1920 := Nat.lt_trans (log_lt hq.u) (by decide)
    have e1 := st_len hq.t
    have e2 := st_len hq.u
    have e : rp q = PySem.Str.empty ++ PySem.Str.ofString "Share(" ++ st q.1 ++ PySem.Str.ofString ", " ++ st q.2 ++ PySem.Str.ofString ")" := by unfold rp; rw [empty_app]
    rw [e] at k
    refine ⟨_, rfl, ?_, ?_⟩
    · exact big (by rw [empty_app, len_rp1]; omega)
    refine ⟨_, rfl, a, C, dx, _, _, rfl, ha, T.cl, T.nT, shF_top _ _, .inr ⟨_, rfl, l1, _, rfl, ?_, _, rfl, ?_, ?_⟩⟩
    · exact big (by rw [show ((toString q.1 : String) : PySem.Str) = st q.1 from rfl, empty_app, Str.length_append, len_rp1]; omega)
    · exact big (by rw [show ((toString q.1 : String) : PySem.Str) = st q.1 from rfl, empty_app, Str.length_append, Str.length_append, len_rp1, len_rp2]; omega)
    refine ⟨_, rfl, a, C, dx, _, _, rfl, ha, T.cl, T.nU, shF_under _ _, .inr ⟨_, rfl, l2, _, rfl, ?_, _, rfl, ?_, k⟩⟩
    · exact big (by rw [show ((toString q.1 : String) : PySem.Str) = st q.1 from rfl, show ((toString q.2 : String) : PySem.Str) = st q.2 from rfl, empty_app, Str.length_append, Str.length_append, Str.length_append, len_rp1, len_rp2]; omega)
    · exact big (by rw [show ((toString q.1 : String) : PySem.Str) = st q.1 from rfl, show ((toString q.2 : String) : PySem.Str) = st q.2 from rfl, empty_app, Str.length_append, Str.length_append, Str.length_append, Str.length_append, len_rp1, len_rp2, len_rp3]; omega)
/-- is_written -/
def spIsW : Sp := fun vs H Q _ => ∃ x : PySem.Str, vs = [.str x] ∧ x.length ≤ 1000 ∧ ∀ H', Same H H' → Q (.bl (isWL (tl x))) H'
theorem fig_dig (c : Nat) : decide (c ∈ (PySem.Str.ofString "0123456789").cps.toList) = dig c := by
  have e : (PySem.Str.ofString "0123456789").cps.toList = [48, 49, 50, 51, 52, 53, 54, 55, 56, 57] := by decide +kernel
  rw [e]
  unfold dig
  rw [← Bool.decide_and]
  refine decide_eq_decide.mpr ⟨fun h => ?_, fun h => ?_⟩
  · simp only [List.mem_cons, List.not_mem_nil, or_false] at h
    omega
  · simp only [List.mem_cons, List.not_mem_nil, or_false]
    omega
/-- a comprehension over a text -/
theorem lc_str {x : PySem.Str} {g : TG} {tt : TT} {te : TE} {vs : List Nat} {σ : L2.St} {H1 : Hp} {D : Addr} {Qd : Hp → Prop} (Pv : Nat → Hp → Prop) (h0 : Pv 0 (upd H1 D (.lst [])))
    (hs : ∀ i c H, x.cps[i]? = some c → Pv i H → g (.str ⟨#[c]⟩) (wipe σ vs) H fun σ2 H2 => wipe σ2 vs = wipe σ vs ∧ tt σ2 H2 fun b H3 =>
      if b = true then te σ2 H3 fun y H4 => ∃ acc, H4 D = some (.lst acc) ∧ acc.length < sizeLine ∧ Pv (i + 1) (upd H4 D (.lst (acc ++ [y]))) else Pv (i + 1) H3) (hd : ∀ H, Pv x.cps.size H → Qd H) :
    ∃ W : Nat → Nat → Hp → Prop, (∃ m, W 0 m (upd H1 D (.lst []))) ∧ ∀ i m H, W i m H →
      ((Its x).stop i H ∧ Qd H) ∨ ((Its x).go i H ∧ ∃ Nx : Hp → Prop, (∀ H', Nx H' → ∃ m', m' < m ∧ W (i + 1) m' H') ∧ ∀ x' H', (Its x).yld i H x' H' → g x' (wipe σ vs) H' fun σ2 H2 => wipe σ2 vs = wipe σ vs ∧ tt σ2 H2 fun b H3 =>
        if b = true then te σ2 H3 fun y H4 => ∃ acc, H4 D = some (.lst acc) ∧ acc.length < sizeLine ∧ Nx (upd H4 D (.lst (acc ++ [y]))) else Nx H3) := by
  refine ⟨fun i m H => m = x.cps.size - i ∧ i ≤ x.cps.size ∧ Pv i H, ⟨x.cps.size, by simp, Nat.zero_le _, h0⟩, ?_⟩
  rintro i m H ⟨rfl, hi, p⟩
  by_cases hlt : i < x.cps.size
  · refine .inr ⟨hlt, Pv (i + 1), fun H' p' => ⟨x.cps.size - (i + 1), by omega, rfl, hlt, p'⟩, fun v H' y => ?_⟩
    obtain ⟨rfl, c, hc, rfl⟩ := y
    exact hs i c _ hc p
  · refine .inl ⟨by show x.cps.size ≤ i; omega, hd H ?_⟩
    rw [show x.cps.size = i by omega]
    exact p
end
end Ps

/-! Shares as texts: is_written, parse. -/
namespace Ps
open PySem PySem.Spec PyProof.Rows PySem.W L2 TL

section
variable {Z : Cz} {f C CB P fB : Addr} {fd : FuncData}
theorem ok_is_written (F : Fun Z.K "is_written" "is_written" s_is_written f fd) (Y : TxT Z) : Z.ok CX0 1 f fd ["text"] spIsW := by
  refine F.ok sc_is_written (fun vs H Q E h => ?_) (fun cdv A outer s H vs Q E hr h => ?_)
  · obtain ⟨x, rfl, _⟩ := h
    rfl
  · obtain ⟨x, rfl, hx, k⟩ := h
    obtain ⟨tf, hf⟩ := Y.fig
    refine ⟨_, (pss_cons (ps_if (PW.pt (pw_or (pt_cmpR op_eq (pv 0) pe_str (nomark _)) (pw_or1 (pt_not (pt_val (pe_callB (show CallR _ _ (rAll Z.K) from cr_all rfl) (by rfl) Y.all (by decide +kernel) (pa_cons (pe_lc (own := [("sign", 1)]) (g := gName 1) (tt := tYes) (by rfl) sc_is_written.nd (pi_str (pv 0)) (blkOk_by (own := [("sign", 1)]) (N := ["text", "sign"]) (sc := defScope s_is_written) (by decide +kernel)) (fun _ _ _ _ _ => (pg_name (i := 1) sc_is_written.nd rfl (Or.inl rfl))) (fun _ _ _ _ _ => pts_nil) (fun _ _ _ _ _ => (pe_cmpR op_in_sign (pv 1) (pe_glob (v := .str (PySem.Str.ofString "0123456789")) (by rfl) hf ⟨_, rfl⟩) (by rfl)))) pa_nil)))))))
      (pss_one (ps_ret pe_bl))
      pss_nil)
      (pss_one (ps_ret (pe_or (pe_cmpR op_eq (pv 0) pe_str (nomark _)) (pe_one (pe_cmpR op_ne (pe_ix ix_str (pv 0) pe_int (fun _ _ => rfl)) pe_str (nomark _))))))), ?_⟩
    refine ⟨_, rfl, rfl, _, rfl, iteD (fun z => ?_) (fun n0 => ?_)⟩
    · obtain rfl := V.str.inj z
      have e : isWL (tl (PySem.Str.ofString "")) = false := by decide +kernel
      rw [e] at k
      exact iteT (k H (Same.refl _))
    obtain ⟨c, r, hcr⟩ : ∃ c r, tl x = c :: r := by
      cases e : tl x with
      | nil => exact absurd (by rw [ext_tl (show tl x = tl (PySem.Str.ofString "") from e)]) n0
      | cons c r => exact ⟨c, r, rfl⟩
    refine ⟨_, rfl, x, rfl, fun G hG => lc_str (fun i H' => H' G = some (.lst (((tl x).take i).map fun c => V.bl (dig c))) ∧ Same H H') ⟨upd_same, Same.upd hG⟩ ?_ ?_⟩
    · rintro i d H1 hd ⟨h1, e1⟩
      have hd' : (tl x)[i]? = some d := by rw [Array.getElem?_toList]; exact hd
      refine ⟨rfl, ?_⟩
      refine ⟨_, rfl, d, _, rfl, rfl, _, h1, ?_, ?_, ?_⟩
      · rw [List.length_map, List.length_take, ← len_tl]
        exact small1000' (by omega)
      · rw [upd_same, fig_dig, take_more' hd', List.map_append]
        rfl
      · exact fun b o hb => by
          rw [upd_ne (ne_of_none hb hG)]
          exact e1 b o hb
    rintro H1 ⟨h1, e1⟩
    rw [show x.cps.size = (tl x).length by simp [tl], List.take_length] at h1
    refine ⟨G, (tl x).map dig, rfl, SqL.of (by rw [h1, List.map_map]; rfl), _, rfl, ?_⟩
    rw [List.all_map]
    cases ha : (tl x).all (id ∘ dig) with
    | false =>
      have e : isWL (tl x) = false := by
        rw [hcr] at ha ⊢
        show ((c :: r).all dig && _) = false
        rw [show (c :: r).all dig = false from ha]
        rfl
      rw [e] at k
      exact iteT (k _ e1)
    | true =>
      refine iteF ?_
      refine ⟨_, rfl, rfl, _, rfl, iteD (fun z => ?_) (fun n1 => ?_)⟩
      · obtain rfl := V.str.inj z
        have e : isWL (tl (PySem.Str.ofString "0")) = true := by decide +kernel
        rw [e] at k
        exact k _ e1
      · refine ⟨_, rfl, x, 0, c, rfl, rfl, big (by omega), ?_, rfl, ?_⟩
        · rw [show x.cps.toList = c :: r from hcr]
          exact atI_nat (j := 0) rfl
        · have e : isWL (tl x) = !decide (V.str ⟨#[c]⟩ = V.str (PySem.Str.ofString "0")) := by
            rw [hcr] at ha ⊢
            show ((c :: r).all dig && (r.isEmpty || !decide (c = 48))) = _
            rw [show (c :: r).all dig = true from ha, Bool.true_and]
            have e48 : PySem.Str.ofString "0" = ⟨#[48]⟩ := by decide +kernel
            by_cases hc : c = 48
            · subst hc
              rw [decide_eq_true rfl, decide_eq_true (by rw [e48])]
              cases r with
              | nil => exact absurd (by rw [ext_tl (show tl x = tl ⟨#[48]⟩ from hcr), e48]) n1
              | cons d r => rfl
            · rw [decide_eq_false hc, decide_eq_false (fun z => hc ?_)]
              · simp
              · have := V.str.inj z
                rw [e48] at this
                have := congrArg tl this
                simpa [tl] using this
          rw [e] at k
          exact k _ e1
theorem fl_at : FlOk "at" := ⟨fun _ _ _ _ _ _ _ _ _ _ _ _ _ => rfl, fun _ _ => rfl, fun _ _ _ _ _ _ => rfl, fun _ _ _ _ _ _ => rfl, fun _ _ _ _ => rfl, fun _ _ _ _ => rfl, by decide⟩
theorem isW_all {p : List Nat} (h : isWL p = true) : NumText.AllDigits p ∧ p ≠ [] := by
  cases p with
  | nil => cases h
  | cons c r =>
    refine ⟨fun d hd => ?_, by simp⟩
    have h1 := (Bool.and_eq_true _ _ ▸ h : _ ∧ _).1
    have h2 := List.all_eq_true.mp h1 d hd
    unfold dig at h2
    simpa using h2
theorem fold_lt : ∀ (p : List Nat) (a : Nat), NumText.AllDigits p → p.foldl (fun acc c => acc * 10 + (c - 48)) a < (a + 1) * 10 ^ p.length
  | [], a, _ => by simp
  | c :: r, a, h => by
    have ih := fold_lt r (a * 10 + (c - 48)) h.tail
    have hc := h.head
    refine Nat.lt_of_lt_of_le ih ?_
    rw [List.length_cons, Nat.pow_succ, Nat.mul_comm (10 ^ r.length) 10, ← Nat.mul_assoc]
    exact Nat.mul_le_mul_right _ (by omega)
theorem val_lt {p : List Nat} (h : NumText.AllDigits p) (hl : p.length ≤ 300) : (valL p).natAbs < 2 ^ 1000 := by
  have h1 := fold_lt p 0 h
  show NumText.digitsVal p < _
  refine Nat.lt_of_lt_of_le h1 ?_
  rw [Nat.zero_add, Nat.one_mul]
  exact Nat.le_trans (Nat.pow_le_pow_right (by decide) hl) (by decide +kernel)
theorem int_of {a : PySem.Str} (h : isWL (tl a) = true) (hl : a.length ≤ 300) : PySem.intText? a = some (valL (tl a)) := by
  obtain ⟨h1, h2⟩ := isW_all h
  exact intText_digits h1 h2 (by omega)
theorem spl_ne (S : List Nat) : ∀ (l : List Nat) (k : Nat) (acc : List Nat), spl S k acc l ≠ []
  | [], k, acc => by cases k <;> simp [spl]
  | c :: r, 0, acc => by
    unfold spl
    split
    · simp
    · exact spl_ne S r 0 _
  | c :: r, k + 1, acc => by
    unfold spl
    exact spl_ne S r k acc
theorem noSign_le : ∀ l : List Nat, (noSign l).length ≤ l.length := fun l => by
  unfold noSign
  split <;> simp
theorem spl_le (S : List Nat) : ∀ (l : List Nat) (k : Nat) (acc p : List Nat), p ∈ spl S k acc l → p.length ≤ acc.length + l.length
  | [], k, acc, p, h => by
    have : p = acc := by cases k <;> simpa [spl] using h
    rw [this]
    omega
  | c :: r, 0, acc, p, h => by
    unfold spl at h
    split at h
    · rcases List.mem_cons.mp h with rfl | h
      · omega
      · have := spl_le S r _ [] p h
        simp only [List.length_nil, List.length_cons] at this ⊢
        omega
    · have := spl_le S r 0 (acc ++ [c]) p h
      simp only [List.length_append, List.length_cons, List.length_nil] at this ⊢
      omega
  | c :: r, k + 1, acc, p, h => by
    unfold spl at h
    have := spl_le S r k acc p h
    simp only [List.length_cons]
    omega
def NotStr (K : Frag) (H : Hp) (v : V) : Prop := ∃ t, TyX K H v t ∧ kitOne K t (.type "str") = some false
abbrev TText (Z : Cz) (CB P fB : Addr) : Prop := ExT Z.K Z.mg "BadText" "at" "BadText.__init__" CB P fB
def spParse (K : Frag) (C CB : Addr) : Sp := fun vs H Q E => ∃ v, vs = [v] ∧
  ((∃ x, v = .str x ∧ x.length ≤ 300 ∧ ((∃ q, pfL (tl x) = some q ∧ ∀ v' H', Same H H' → Sh C H' v' q → Q v' H') ∨ (pfL (tl x) = none ∧ Rz CB "at" v H E))) ∨ (NotStr K H v ∧ Rz CB "at" v H E))
abbrev CStr (Z : Cz) (C : Addr) : Prop := CalS Z CX0 1 C "__str__" ["self"] (spTxt C wr)
theorem ok_parse (F : Fun Z.K "parse" "Share.parse" s_Share_parse f fd) (T : ShT Z C) (Y : TxT Z) (TB : TText Z CB P fB) (c_w : Cal Z CX0 1 "is_written" ["text"] [] spIsW) (c_S : CShare Z C) (c_str : CStr Z C) : Z.ok (CXN Z) 6 f fd ["text"] (spParse Z.K C CB) := by
  refine Fun.okN F sc_Share_parse (fun vs H Q E h => ?_) (fun cdv A outer s H vs Q E hr h => ?_)
  · obtain ⟨v, rfl, _⟩ := h
    rfl
  · obtain ⟨v, rfl, h⟩ := h
    refine ⟨_, (pss_cons (ps_if (pt_not (pt_val (pe_callB call_isi (by rfl) T.isi (by decide +kernel) (pa_cons (pv 0) (pa_cons (pe_ty "str" (by rfl) Y.str (by decide +kernel)) pa_nil)))))
      (pss_one (ps_raiseX TB fl_at hr (L2N.takes_of rfl rfl rfl rfl) (pa_cons (pv 0) pa_nil) rfl))
      pss_nil)
      (pss_cons (ps_set (i := 1) sc_Share_parse.nd rfl (Or.inl rfl) (pe_m1 PySem.F.slot_str_split PySem.F.type_str_split mt_split (pe_m1 PySem.F.slot_str_removeprefix PySem.F.type_str_removeprefix mt_removeprefix (pv 0) pe_str) pe_str))
      (pss_cons (ps_if (PW.pt (pw_or (pt_cmpR op_gt (pe_callB (show CallR _ _ (fun xs H Q => ∃ p ys, xs = [.ref p] ∧ (SqL Z.K H p ys ∨ SqT Z.K H p ys) ∧ Q (.int ys.length) H) from call_len_seq) (by rfl) Y.len PySem.boot_len (pa_cons (pv 1) pa_nil)) pe_int (nomark _)) (pw_or1 (pt_not (pt_val (pe_callB (show CallR _ _ (rAll Z.K) from cr_all rfl) (by rfl) Y.all (by decide +kernel) (pa_cons (pe_lc (own := [("part", 2)]) (g := gName 2) (tt := tYes) (by rfl) sc_Share_parse.nd (pi_list (pv 1)) (blkOk_by (own := [("part", 2)]) (N := ["text", "parts", "part", "under", "top", "found"]) (sc := defScope s_Share_parse) (by decide +kernel)) (fun _ _ _ _ _ => (pg_name (i := 2) sc_Share_parse.nd rfl (Or.inl rfl))) (fun _ _ _ _ _ => pts_nil) (fun _ _ _ _ _ => (pe_cal c_w (hr.mono (by decide)) (by rfl) pass0 (pa_cons (pv 2) pa_nil)))) pa_nil)))))))
      (pss_one (ps_raiseX TB fl_at hr (L2N.takes_of rfl rfl rfl rfl) (pa_cons (pv 0) pa_nil) rfl))
      pss_nil)
      (C8.pss_cut (ps_set (i := 3) sc_Share_parse.nd rfl (Or.inl rfl) (pe_ifExp (pt_cmpR op_eq (pe_callB (show CallR _ _ (fun xs H Q => ∃ p ys, xs = [.ref p] ∧ (SqL Z.K H p ys ∨ SqT Z.K H p ys) ∧ Q (.int ys.length) H) from call_len_seq) (by rfl) Y.len PySem.boot_len (pa_cons (pv 1) pa_nil)) pe_int (nomark _)) (pe_callTy call_int_str (by rfl) T.int (by decide +kernel) (pa_cons (pe_ix ix_list (pv 1) pe_int (fun _ _ => rfl)) pa_nil)) pe_int))
      (pss_cons (ps_if (pt_cmpR op_eq (pv 3) pe_int (nomark _))
      (pss_one (ps_raiseX TB fl_at hr (L2N.takes_of rfl rfl rfl rfl) (pa_cons (pv 0) pa_nil) rfl))
      pss_nil)
      (pss_cons (ps_set (i := 4) sc_Share_parse.nd rfl (Or.inl rfl) (pe_callTy call_int_str (by rfl) T.int (by decide +kernel) (pa_cons (pe_ix ix_list (pv 1) pe_int (fun _ _ => rfl)) pa_nil)))
      (pss_cons (ps_set (i := 5) sc_Share_parse.nd rfl (Or.inl rfl) (pe_calC c_S (hr.mono (by decide)) (by rfl) pass0 (pa_cons (pe_ifExp (pt_val (pe_m1 PySem.F.slot_str_startswith PySem.F.type_str_startswith mt_startswith (pv 0) pe_str)) (pe_un un_neg (pv 4)) (pv 4)) (pa_cons (pv 3) pa_nil))))
      (pss_cons (ps_if (pt_cmpR op_ne (pe_callTy (str_cal c_str (hr.mono (by decide)) pass0) (by rfl) Y.str (by decide +kernel) (pa_cons (pv 5) pa_nil)) (pv 0) (nomark _))
      (pss_one (ps_raiseX TB fl_at hr (L2N.takes_of rfl rfl rfl rfl) (pa_cons (pv 0) pa_nil) rfl))
      pss_nil)
      (pss_one (ps_ret (pv 5))))))))))), ?_⟩
    rcases h with ⟨x, rfl, hx, h⟩ | ⟨⟨t, ty, e⟩, k⟩
    · refine ⟨_, rfl, _, _, _, _, true, rfl, .ty "str", .base (.str x), kit_ty (by decide +kernel), _, rfl, iteF ?_⟩
      have hrm : (Txt.removeprefix x (PySem.Str.ofString "-")).length ≤ x.length := by
        rw [len_tl, tl_rem, len_tl]
        exact noSign_le _
      refine ⟨_, rfl, ⟨_, rfl⟩, _, _, rfl, rfl, big (by omega), ⟨_, rfl⟩, _, _, rfl, rfl, by decide +kernel, ?_, fun p hp => ?_⟩
      · have := small1000' (n := 1000) (by decide)
        omega
      have hys := tl_split x
      generalize Txt.split (Txt.removeprefix x (PySem.Str.ofString "-")) (PySem.Str.ofString "/") = ys at hys
      have hne : ys ≠ [] := fun z => spl_ne [47] (noSign (tl x)) 0 [] (by rw [← hys, z]; rfl)
      have hle : ∀ y ∈ ys, y.length ≤ 300 := fun y hy => by
        have := spl_le [47] (noSign (tl x)) 0 [] (tl y) (by rw [← hys]; exact List.mem_map_of_mem hy)
        have h2 := noSign_le (tl x)
        rw [← len_tl] at this h2
        simp only [List.length_nil] at this
        omega
      have e1 : Same H (upd H p (.lst (ys.map V.str))) := Same.upd hp
      have hp1 : (upd H p (.lst (ys.map V.str))) p = some (.lst (ys.map V.str)) := upd_same
      generalize upd H p (.lst (ys.map V.str)) = H1 at e1 hp1
      have hbad : pfL (tl x) = none → Rz CB "at" (.str x) H E := fun z => by
        rcases h with ⟨q, hq, _⟩ | ⟨_, k⟩
        · rw [z] at hq; cases hq
        · exact k
      have hgood : ∀ q, pfL (tl x) = some q → ∀ v' H', Same H H' → Sh C H' v' q → Q v' H' := fun q z => by
        rcases h with ⟨r, hq, k⟩ | ⟨hq, _⟩
        · rw [z] at hq
          rw [Option.some.inj hq]
          exact k
        · rw [z] at hq; cases hq
      clear h
      have hpf : pfL (tl x) = (match ys.map tl with
        | [a] => if isWL a = true then pfGo (tl x) a 1 else none
        | [a, b] => if (isWL a && isWL b) = true then (if valL b = 0 then none else pfGo (tl x) a (valL b)) else none
        | _ => none) := by rw [hys]; rfl
      refine ⟨_, rfl, p, _, rfl, .inl (SqL.of hp1), _, _, rfl, rfl, _, rfl, iteD (fun hg => ?_) (fun hg => ?_)⟩
      · have hn : pfL (tl x) = none := by
          rw [hpf]
          rcases ys with _ | ⟨a, _ | ⟨b, _ | ⟨c, r⟩⟩⟩
          · rfl
          · simp at hg
          · simp at hg
          · rfl
        exact iteT ⟨_, rfl, _, rfl, ((hbad hn).later e1).now⟩
      refine ⟨_, rfl, p, rfl, ⟨_, SqL.of hp1⟩, fun G hG => lc_list (K := Z.K) (a := p) (xs := ys.map V.str) (fun i H' => H' G = some (.lst ((ys.take i).map fun y => V.bl (isWL (tl y)))) ∧ Same H1 H') ⟨upd_same, Same.upd hG⟩ (fun i H' _ ⟨_, e⟩ => SqL.of (e _ _ hp1)) ?_ ?_⟩
      · rintro i v H2 hv ⟨h2, e2⟩
        obtain ⟨y, hy, rfl⟩ : ∃ y, ys[i]? = some y ∧ V.str y = v := by
          rw [List.getElem?_map] at hv
          cases e : ys[i]? with
          | none => rw [e] at hv; cases hv
          | some y => rw [e] at hv; exact ⟨y, rfl, Option.some.inj hv⟩
        refine ⟨rfl, ?_⟩
        refine ⟨_, rfl, y, rfl, Nat.le_trans (hle y (List.mem_of_getElem? hy)) (by decide), fun H3 e3 => ?_⟩
        refine ⟨_, e3 _ _ h2, ?_, ?_, ?_⟩
        · rw [List.length_map, List.length_take]
          have : ys.length ≤ 2 := by
            have := hg
            simp only [List.length_map] at this
            omega
          exact small1000' (by omega)
        · rw [upd_same, take_more' hy, List.map_append]
          rfl
        · exact fun b o hb => by
            rw [upd_ne (ne_of_none hb hG)]
            exact e3 b o (e2 b o hb)
      rintro H2 ⟨h2, e2⟩
      rw [List.length_map, List.take_length] at h2
      refine ⟨G, ys.map fun y => isWL (tl y), rfl, SqL.of (by rw [h2, List.map_map]; rfl), _, rfl, ?_⟩
      rw [List.all_map]
      have e02 := e1.trans e2
      have hp2 := e2 _ _ hp1
      cases ha : ys.all (id ∘ fun y => isWL (tl y)) with
      | false =>
        have hn : pfL (tl x) = none := by
          rw [hpf]
          rcases ys with _ | ⟨a, _ | ⟨b, _ | ⟨c, r⟩⟩⟩
          · rfl
          · have : isWL (tl a) = false := by simpa using ha
            show (if isWL (tl a) = true then _ else none) = none
            rw [this]; rfl
          · have : (isWL (tl a) && isWL (tl b)) = false := by simpa using ha
            show (if (isWL (tl a) && isWL (tl b)) = true then _ else none) = none
            rw [this]; rfl
          · rfl
        exact iteT ⟨_, rfl, _, rfl, ((hbad hn).later e02).now⟩
      | true =>
        refine iteF ?_
        refine ⟨fun σ H' => ∃ (u : Int) (a : PySem.Str) (r : List V) (o : Option V), σ = [some (.str x), some (.ref p), o, some (.int u), none, none] ∧ Same H H' ∧ H' p = some (.lst (.str a :: r)) ∧ isWL (tl a) = true ∧ a.length ≤ 300 ∧ u.natAbs < 2 ^ 1000 ∧ pfL (tl x) = (if u = 0 then none else pfGo (tl x) (tl a) u), ?_, ?_⟩
        · rcases ys with _ | ⟨a, _ | ⟨b, _ | ⟨c, r⟩⟩⟩
          · exact absurd rfl hne
          · have wa : isWL (tl a) = true := by simpa using ha
            refine ⟨_, rfl, p, _, rfl, .inl (SqL.of hp2), rfl, _, rfl, iteF ?_⟩
            refine ⟨1, a, _, _, rfl, e02, hp2, wa, hle a (by simp), by decide +kernel, ?_⟩
            rw [hpf]
            show (if isWL (tl a) = true then _ else none) = _
            rw [wa]; rfl
          · have wab : isWL (tl a) = true ∧ isWL (tl b) = true := by simpa using ha
            refine ⟨_, rfl, p, _, rfl, .inl (SqL.of hp2), rfl, _, rfl, iteT ?_⟩
            refine ⟨_, rfl, p, _, 1, _, rfl, rfl, SqL.of hp2, atI_nat (j := 1) rfl, b, _, rfl, int_of wab.2 (hle b (by simp)), Nat.le_trans (hle b (by simp)) (by decide), ?_⟩
            refine ⟨_, a, _, _, rfl, e02, hp2, wab.1, hle a (by simp), val_lt (isW_all wab.2).1 (by rw [← len_tl]; exact hle b (by simp)), ?_⟩
            rw [hpf]
            show (if (isWL (tl a) && isWL (tl b)) = true then _ else none) = _
            rw [wab.1, wab.2]; rfl
          · refine absurd ?_ hg
            simp only [List.map_cons, List.length_cons]
            omega
        · rintro σ H3 ⟨u, a, r, o, rfl, e3, hp3, wa, hal, hub, hpf⟩
          refine ⟨_, rfl, rfl, _, rfl, iteD (fun z => ?_) (fun z => ?_)⟩
          · rw [if_pos (V.int.inj z)] at hpf
            exact ⟨_, rfl, _, rfl, ((hbad hpf).later e3).now⟩
          have hu : u ≠ 0 := fun z' => z (by rw [z'])
          rw [if_neg hu] at hpf
          have hva := val_lt (isW_all wa).1 (by rw [← len_tl]; exact hal)
          have hz : Sz 1000 (low (if (tl x).head? = some 45 then -valL (tl a) else valL (tl a)) u) := Sz.of_low hu (by split <;> omega) hub
          refine ⟨_, rfl, p, _, 0, _, rfl, rfl, SqL.of hp3, atI_nat (j := 0) rfl, a, _, rfl, int_of wa hal, Nat.le_trans hal (by decide), ?_⟩
          refine ⟨_, rfl, ⟨_, rfl⟩, _, _, rfl, rfl, _, rfl, ?_⟩
          rw [starts_sign]
          refine iteD (fun hs => ⟨_, rfl, _, rfl, _, rfl, ?_⟩) (fun hs => ⟨_, rfl, _, rfl, ?_⟩)
          all_goals
            intro xa dxa h1 h2 h3
            refine mk_shI hu (Nat.lt_of_lt_of_le hub (Nat.pow_le_pow_right (by decide) (by decide))) h1 h2 h3 fun H4 e4 z4 => ⟨rfl, ?_⟩
            have z5 : Sh C H4 (.ref xa) (low (if (tl x).head? = some 45 then -valL (tl a) else valL (tl a)) u) := by
              first
                | (rw [if_pos hs]; exact z4)
                | (rw [if_neg hs]; exact z4)
            unfold pfGo at hpf
            dsimp only at hpf
            generalize low (if (tl x).head? = some 45 then -valL (tl a) else valL (tl a)) u = q at z5 hz hpf
            have e04 := e3.trans e4
            refine ⟨_, rfl, _, rfl, z5.ins, _, q, rfl, z5, hz, ⟨_, rfl, _, rfl, rfl, _, rfl, ?_⟩⟩
            refine iteND (fun hw => ?_) (fun hw => ?_)
            · rw [if_neg (fun z => hw (by rw [ext_tl ((tl_wr q).trans z)]))] at hpf
              exact ⟨_, rfl, _, rfl, ((hbad hpf).later e04).now⟩
            · rw [if_pos (by rw [← tl_wr, V.str.inj hw])] at hpf
              exact ⟨_, rfl, hgood q hpf _ _ e04 z5⟩
    · exact ⟨_, rfl, _, _, _, _, false, rfl, .ty "str", ty, e, _, rfl, iteT ⟨_, rfl, _, rfl, k.now⟩⟩
end
end Ps

/-! lowest. -/
namespace Ps
open PySem PySem.Spec PyProof.Rows PySem.W L2

def spLowest : Sp := fun vs H Q _ => ∃ t u : Int, vs = [.int t, .int u] ∧ u ≠ 0 ∧ u.natAbs < 2 ^ 9000 ∧ NewL H Q (pair (low t u))
section
variable {Z : Cz} {f C : Addr} {fd : FuncData}
theorem ok_lowest (F : Fun Z.K "_law_lowest" "_law_lowest" s_lw_lowest f fd) (T : ShT Z C) : Z.ok CX0 1 f fd ["_law_top", "_law_under"] spLowest := by
  refine F.ok sc_lw_lowest (fun vs H Q E h => ?_) (fun cdv A outer s H vs Q E hr h => ?_)
  · obtain ⟨a, b, rfl, _⟩ := h
    rfl
  · obtain ⟨a, b, rfl, hu, hb, k⟩ := h
    refine ⟨_, (pss_cons (ps_par (i := 2) (j := 3) (by rfl) sc_lw_lowest.nd rfl rfl (by decide) rfl rfl (pa_cons (pe_callB call_abs (by rfl) T.abs (by decide +kernel) (pa_cons (pv 0) pa_nil)) (pa_cons (pe_callB call_abs (by rfl) T.abs (by decide +kernel) (pa_cons (pv 1) pa_nil)) pa_nil)) (by rfl))
      (pss_cons (ps_while PassesOwn.never (pt_cmpR op_gt (pv 3) pe_int (nomark _))
      (pss_one (ps_par (i := 2) (j := 3) (by rfl) sc_lw_lowest.nd rfl rfl (by decide) rfl rfl (pa_cons (pv 3) (pa_cons (pe_op op_mod (pv 2) (pv 3)) pa_nil)) (by rfl))))
      (pss_cons (ps_if (pt_cmpR op_lt (pv 1) pe_int (nomark _))
      (pss_one (ps_set (i := 2) sc_lw_lowest.nd rfl (Or.inl rfl) (pe_un un_neg (pv 2))))
      pss_nil)
      (pss_one (ps_ret (pe_lst (pa_cons (pe_op op_fdivG (pv 0) (pv 2)) (pa_cons (pe_op op_fdivG (pv 1) (pv 2)) pa_nil)))))))), ?_⟩
    refine ⟨_, rfl, _, rfl, _, rfl, _, rfl, _, _, rfl, ?_⟩
    refine while_by (fun σ H' => ∃ x y : Int, σ = [some (.int a), some (.int b), some (.int x), some (.int y)] ∧ H' = H ∧ 0 ≤ x ∧ 0 ≤ y ∧ Int.gcd x y = Int.gcd a b) (fun σ _ => match σ with | [_, _, _, some (.int y)] => y.toNat | _ => 0)
      ⟨_, _, rfl, rfl, ?_, ?_, ?_⟩ (fun σ H1 z => ?_) (fun σ H1 Q Q' m z => ?_)
    · split <;> omega
    · split <;> omega
    · rw [show (if a < 0 then -a else a) = ((a.natAbs : Nat) : Int) by split <;> omega, show (if b < 0 then -b else b) = ((b.natAbs : Nat) : Int) by split <;> omega]
      rfl
    · obtain ⟨x, y, rfl, rfl, hx, hy, e⟩ := z
      refine ⟨_, rfl, _, _, rfl, rfl, _, rfl, iteD (fun hy0 => ?_) (fun hy0 => ?_)⟩
      · refine ⟨_, rfl, _, rfl, _, rfl, _, _, rfl, rfl, (by show (0 : Int) < y; omega), _, _, rfl, ?_⟩
        have h1 := Int.emod_nonneg x (show y ≠ 0 by omega)
        have h2 := Int.emod_lt_of_pos x (show 0 < y by omega)
        refine ⟨⟨_, _, rfl, rfl, hy, h1, ?_⟩, ?_⟩
        · rw [← e]
          exact gcd_step hx hy
        · show (x % y).toNat < y.toNat
          omega
      · have hy1 : y = 0 := by omega
        subst hy1
        have e2 : Int.gcd x 0 = x.natAbs := Int.gcd_zero_right ..
        rw [e2] at e
        have e3 : x = (Int.gcd a b : Int) := by omega
        subst e3
        have fin : ∀ (H2 : Hp) (σ : L2.St), H2 = H1 → σ = [some (.int a), some (.int b), some (.int (lowG a b)), some (.int 0)] → (tRet (tLst (tCons (tOp (rI CDivG fun i j => .int (i.fdiv j)) (tVar 0) (tVar 2)) (tCons (tOp (rI CDivG fun i j => .int (i.fdiv j)) (tVar 1) (tVar 2)) tNil)))) { nx := fun _ H' => Q .non H', rt := Q } σ H2 := by
          rintro H2 σ rfl rfl
          have hG : CDivG a (lowG a b) := divG (b := 9000) (lowG_ne hu) (Nat.lt_of_le_of_lt (by rw [lowG_abs]; exact Int.gcd_le_natAbs_right _ hu) hb) (by decide) (Nat.le_refl _)
          refine ⟨_, rfl, _, rfl, _, _, rfl, rfl, hG, _, rfl, _, rfl, _, _, rfl, rfl, hG, (by show 2 ≤ sizeLine; decide), fun p hp => ?_⟩
          exact k.here (Same.refl _) hp
        refine ⟨_, rfl, _, _, rfl, rfl, _, rfl, iteD (fun h0 => ?_) (fun h0 => ?_)⟩
        · refine ⟨_, rfl, _, rfl, ?_⟩
          refine fin _ _ rfl ?_
          unfold lowG
          rw [if_pos h0]
          rfl
        · refine fin _ _ rfl ?_
          unfold lowG
          rw [if_neg h0]
    · obtain ⟨v, hv, i, j, e1, e2, k, hk, z2⟩ := z
      exact ⟨v, hv, i, j, e1, e2, k, hk, m _ _ z2⟩

abbrev CLow (Z : Cz) : Prop := Cal Z CX0 1 "_law_lowest" ["_law_top", "_law_under"] [] spLowest
end
end Ps

/-! k02: the law's smaller defs. -/
namespace Ps
open PySem PySem.Spec PyProof.Rows PySem.W L2 TL

/-- five answers of a difference -/
def ordL (g : Int) : List V := [.bl (decide (g < 0)), .bl (decide (g ≤ 0)), .bl (decide (0 < g)), .bl (decide (0 ≤ g)), .bl (decide (g = 0))]
def dueL (l r : Int) : List V := [.bl (decide (l < r)), .bl (decide (l ≤ r)), .bl (decide (r < l)), .bl (decide (r ≤ l)), .bl (decide (V.int l = V.int r))]
theorem due_ord (l r : Int) : dueL l r = ordL (l - r) := by
  unfold dueL ordL
  rw [show decide (l < r) = decide (l - r < 0) from decide_eq_decide.mpr (by omega), show decide (l ≤ r) = decide (l - r ≤ 0) from decide_eq_decide.mpr (by omega), show decide (r < l) = decide (0 < l - r) from decide_eq_decide.mpr (by omega),
    show decide (r ≤ l) = decide (0 ≤ l - r) from decide_eq_decide.mpr (by omega), show decide (V.int l = V.int r) = decide (l - r = 0) from decide_eq_decide.mpr ⟨fun z => by have := V.int.inj z; omega, fun z => by rw [show l = r by omega]⟩]
theorem ord_neg (g : Int) : ordL (-g) = [.bl (decide (0 < g)), .bl (decide (0 ≤ g)), .bl (decide (g < 0)), .bl (decide (g ≤ 0)), .bl (decide (g = 0))] := by
  unfold ordL
  rw [show decide (-g < 0) = decide (0 < g) from decide_eq_decide.mpr (by omega), show decide (-g ≤ 0) = decide (0 ≤ g) from decide_eq_decide.mpr (by omega), show decide (0 < -g) = decide (g < 0) from decide_eq_decide.mpr (by omega),
    show decide (0 ≤ -g) = decide (g ≤ 0) from decide_eq_decide.mpr (by omega), show decide (-g = 0) = decide (g = 0) from decide_eq_decide.mpr (by omega)]
structure ShO (Z : Cz) (C : Addr) : Prop where
  lt : CalS Z CX0 6 C "__lt__" ["self", "other"] (spOrd C fun i => decide (i < 0))
  le : CalS Z CX0 6 C "__le__" ["self", "other"] (spOrd C fun i => decide (i ≤ 0))
  gt : CalS Z CX0 6 C "__gt__" ["self", "other"] (spOrd C fun i => decide (0 < i))
  ge : CalS Z CX0 6 C "__ge__" ["self", "other"] (spOrd C fun i => decide (0 ≤ i))
  eq : CalS Z CX0 6 C "__eq__" ["self", "other"] (spShEq Z.K C)
  ne : NeT Z.K C
  sub : subIn Z.K (.ref C) (.type "int") = some false
  str : CStr Z C
  repr : CalS Z CX0 1 C "__repr__" ["self"] (spTxt C rp)
  bool : CalS Z CX0 1 C "__bool__" ["self"] (spGet C 9000 fun q => .bl (q.1 != 0))
  new : CShare Z C
def spOrders (C : Addr) : Sp := fun vs H Q _ => ∃ (x y : V) (g : Int), vs = [x, y] ∧ ((∃ q r, Sh C H x q ∧ Nb C H y r ∧ Sz 4000 q ∧ Sz 4000 r ∧ g = gMin q r) ∨ (∃ i r, x = .int i ∧ Sh C H y r ∧ Sz 4000 r ∧ Sz 4000 (i, 1) ∧ g = -gMin r (i, 1))) ∧ NewL H Q (ordL g)
def spDue2 : Sp := fun vs H Q _ => ∃ l r : Int, vs = [.int l, .int r] ∧ NewL H Q (dueL l r)
def spWritten : Sp := fun vs H Q _ => ∃ (p : Addr) (q : Int × Int), vs = [.ref p] ∧ H p = some (.lst (pair q)) ∧ Sz 1000 q ∧ Q (.str (wr q)) H
section
variable {Z : Cz} {f C CB P fB : Addr} {fd : FuncData}
theorem ok_orders (F : Fun Z.K "_law_orders" "_law_orders" s_lw_orders f fd) (T : ShT Z C) (M : ShO Z C) : Z.ok CX0 7 f fd ["_law_one", "_law_other"] (spOrders C) := by
  refine F.ok sc_lw_orders (fun vs H Q E h => ?_) (fun cdv A outer s H vs Q E hr h => ?_)
  · obtain ⟨x, y, g, rfl, _⟩ := h
    rfl
  · obtain ⟨x, y, g, rfl, h, k⟩ := h
    refine ⟨_, (pss_one (ps_ret (pe_lst (pa_cons (pe_cmpR (op_both (op_cmp (op := .Lt) M.lt hr pass0) (op_cmpI (op := .Lt) M.gt M.sub PySem.F.slot_int_lt (fun h q => dec_lt h q) hr pass0)) (pv 0) (pv 1) (nomark _)) (pa_cons (pe_cmpR (op_both (op_cmp (op := .LtE) M.le hr pass0) (op_cmpI (op := .LtE) M.ge M.sub PySem.F.slot_int_le (fun h q => dec_le h q) hr pass0)) (pv 0) (pv 1) (nomark _)) (pa_cons (pe_cmpR (op_both (op_cmp (op := .Gt) M.gt hr pass0) (op_cmpI (op := .Gt) M.lt M.sub PySem.F.slot_int_gt (fun h q => dec_gt h q) hr pass0)) (pv 0) (pv 1) (nomark _)) (pa_cons (pe_cmpR (op_both (op_cmp (op := .GtE) M.ge hr pass0) (op_cmpI (op := .GtE) M.le M.sub PySem.F.slot_int_ge (fun h q => dec_ge h q) hr pass0)) (pv 0) (pv 1) (nomark _)) (pa_cons (pe_cmpR (op_both (op_cmp (op := .Eq) M.eq hr pass0) (op_cmpI (op := .Eq) M.eq M.sub PySem.F.slot_int_eq (fun h q => dec_eq h q) hr pass0)) (pv 0) (pv 1) (nomark _)) pa_nil)))))))), ?_⟩
    rcases h with ⟨q, r, hx, hy, hq, hr', rfl⟩ | ⟨i, r, rfl, hy, hr', hi, rfl⟩
    · refine ⟨_, rfl, _, rfl, .inl ⟨hx.ins, hy.nf T, _, _, _, _, rfl, hx, hy, hq, hr', fun H1 e1 => ?_⟩⟩
      refine ⟨_, rfl, _, rfl, .inl ⟨(hx.mono e1).ins, (hy.mono e1).nf T, _, _, _, _, rfl, hx.mono e1, hy.mono e1, hq, hr', fun H2 e2 => ?_⟩⟩
      have e2 := e1.trans e2
      refine ⟨_, rfl, _, rfl, .inl ⟨(hx.mono e2).ins, (hy.mono e2).nf T, _, _, _, _, rfl, hx.mono e2, hy.mono e2, hq, hr', fun H3 e3 => ?_⟩⟩
      have e3 := e2.trans e3
      refine ⟨_, rfl, _, rfl, .inl ⟨(hx.mono e3).ins, (hy.mono e3).nf T, _, _, _, _, rfl, hx.mono e3, hy.mono e3, hq, hr', fun H4 e4 => ?_⟩⟩
      have e4 := e3.trans e4
      refine ⟨_, rfl, _, rfl, .inl ⟨(hx.mono e4).ins, (hy.mono e4).nf T, _, _, _, rfl, hx.mono e4, .inl ⟨_, hy.mono e4, hq, hr', fun H5 e5 => ?_⟩⟩⟩
      exact ⟨(by show 5 ≤ sizeLine; decide), fun p hp => k.here (e4.trans e5) hp⟩
    · have hb : ∀ H', Nb C H' (.int i) (i, 1) := fun H' => .inr ⟨i, rfl, rfl⟩
      rw [ord_neg] at k
      refine ⟨_, rfl, _, rfl, .inr ⟨⟨_, rfl⟩, hy.ins, _, _, _, _, rfl, hy, hb _, hr', hi, fun H1 e1 => ?_⟩⟩
      refine ⟨_, rfl, _, rfl, .inr ⟨⟨_, rfl⟩, (hy.mono e1).ins, _, _, _, _, rfl, hy.mono e1, hb _, hr', hi, fun H2 e2 => ?_⟩⟩
      have e2 := e1.trans e2
      refine ⟨_, rfl, _, rfl, .inr ⟨⟨_, rfl⟩, (hy.mono e2).ins, _, _, _, _, rfl, hy.mono e2, hb _, hr', hi, fun H3 e3 => ?_⟩⟩
      have e3 := e2.trans e3
      refine ⟨_, rfl, _, rfl, .inr ⟨⟨_, rfl⟩, (hy.mono e3).ins, _, _, _, _, rfl, hy.mono e3, hb _, hr', hi, fun H4 e4 => ?_⟩⟩
      have e4 := e3.trans e4
      refine ⟨_, rfl, _, rfl, .inr ⟨⟨_, rfl⟩, (hy.mono e4).ins, _, _, _, rfl, hy.mono e4, .inl ⟨_, hb _, hr', hi, fun H5 e5 => ?_⟩⟩⟩
      exact ⟨(by show 5 ≤ sizeLine; decide), fun p hp => k.here (e4.trans e5) hp⟩
theorem ok_due (F : Fun Z.K "_law_due" "_law_due" s_lw_due f fd) : Z.ok CX0 1 f fd ["_law_left", "_law_right_here"] spDue2 := by
  refine F.ok sc_lw_due (fun vs H Q E h => ?_) (fun cdv A outer s H vs Q E hr h => ?_)
  · obtain ⟨l, r, rfl, _⟩ := h
    rfl
  · obtain ⟨l, r, rfl, k⟩ := h
    refine ⟨_, (pss_one (ps_ret (pe_lst (pa_cons (pe_cmpR op_lt (pv 0) (pv 1) (nomark _)) (pa_cons (pe_cmpR op_le (pv 0) (pv 1) (nomark _)) (pa_cons (pe_cmpR op_gt (pv 0) (pv 1) (nomark _)) (pa_cons (pe_cmpR op_ge (pv 0) (pv 1) (nomark _)) (pa_cons (pe_cmpR op_eq (pv 0) (pv 1) (nomark _)) pa_nil)))))))), ?_⟩
    refine ⟨_, rfl, _, rfl, _, _, rfl, rfl, _, rfl, _, rfl, _, _, rfl, rfl, _, rfl, _, rfl, _, _, rfl, rfl, _, rfl, _, rfl, _, _, rfl, rfl, _, rfl, _, rfl, rfl, (by show 5 ≤ sizeLine; decide), fun p hp => ?_⟩
    exact k.here (Same.refl _) hp
theorem ok_written (F : Fun Z.K "_law_written" "_law_written" s_lw_written f fd) (Y : TxT Z) : Z.ok CX0 1 f fd ["_law_pair"] spWritten := by
  refine F.ok sc_lw_written (fun vs H Q E h => ?_) (fun cdv A outer s H vs Q E hr h => ?_)
  · obtain ⟨p, q, rfl, _⟩ := h
    rfl
  · obtain ⟨p, q, rfl, hp, hq, k⟩ := h
    refine ⟨_, (pss_one (ps_ret (pe_ifExp (pt_cmpR op_eq (pe_ix ix_list (pv 0) pe_int (fun _ _ => rfl)) pe_int (nomark _)) (pe_callTy call_str_int (by rfl) Y.str (by decide +kernel) (pa_cons (pe_ix ix_list (pv 0) pe_int (fun _ _ => rfl)) pa_nil)) (pe_op op_add_str (pe_op op_add_str (pe_callTy call_str_int (by rfl) Y.str (by decide +kernel) (pa_cons (pe_ix ix_list (pv 0) pe_int (fun _ _ => rfl)) pa_nil)) pe_str) (pe_callTy call_str_int (by rfl) Y.str (by decide +kernel) (pa_cons (pe_ix ix_list (pv 0) pe_int (fun _ _ => rfl)) pa_nil)))))), ?_⟩
    have l1 : q.1.natAbs.log2 < 1920 := Nat.lt_trans (log_lt hq.t) (by decide)
    have l2 : q.2.natAbs.log2 < 1920 := Nat.lt_trans (log_lt hq.u) (by decide)
    have e1 := st_len hq.t
    have e2 := st_len hq.u
    refine ⟨_, rfl, p, _, 1, _, rfl, rfl, SqL.of hp, atI_nat (j := 1) rfl, rfl, _, rfl, ?_⟩
    by_cases h1 : q.2 = 1
    · rw [decide_eq_true (show V.int q.2 = V.int 1 by rw [h1])]
      refine iteT ?_
      have e : wr q = st q.1 := by unfold wr; rw [if_pos h1]
      rw [e] at k
      exact ⟨_, rfl, p, _, 0, _, rfl, rfl, SqL.of hp, atI_nat (j := 0) rfl, _, rfl, l1, k⟩
    · rw [decide_eq_false (vne h1)]
      refine iteF ?_
      have e : wr q = st q.1 ++ PySem.Str.ofString "/" ++ st q.2 := by unfold wr; rw [if_neg h1]
      rw [e] at k
      refine ⟨_, rfl, p, _, 0, _, rfl, rfl, SqL.of hp, atI_nat (j := 0) rfl, _, rfl, l1, _, _, rfl, rfl, ?_, ?_⟩
      · exact big (by rw [show ((toString q.1 : String) : PySem.Str) = st q.1 from rfl, len_slash]; omega)
      · refine ⟨_, rfl, p, _, 1, _, rfl, rfl, SqL.of hp, atI_nat (j := 1) rfl, _, rfl, l2, _, _, rfl, rfl, ?_, k⟩
        exact big (by rw [show ((toString q.1 : String) : PySem.Str) = st q.1 from rfl, show ((toString q.2 : String) : PySem.Str) = st q.2 from rfl, Str.length_append, len_slash]; omega)
end
end Ps

set_option maxHeartbeats 8000000
/-! k02: read, bent. -/
namespace Ps
open PySem PySem.Spec PyProof.Rows PySem.W L2 TL

def tSMethS (C : Addr) (sp : Sp) (E : L2.St → XK) (ta : TE) (t : TA) : TE := fun σ H Q => ta σ H fun x H1 => x = .ref C ∧ t σ H1 fun vs H2 => sp vs H2 Q (E σ)
section
variable {Z : Cz} {X : Cx} {CX : CXT} {k : Nat} {C : Addr} {sp : Sp} {E : L2.St → XK} {o e : Expr} {es : List Expr} {m : Str} {pos apos : Pos} {ta : TE} {t : TA} {pl : Sem Bool}
/-- C.m(e, ..), a static method, in a try's body -/
theorem pe_calTS (c : CalT Z CX k C m sp) (hr : Room k X.A) (hx : ∀ σ, PassesAt CX X σ (E σ)) (he : PE X o ta) (ha : PA X (e :: es) t) (z : InZ Z X := by exact ⟨rfl, rfl, rfl, rfl, rfl⟩)
    (hst : starEach (e :: es) X.env = (false, eval e X.env) :: starEach es X.env := by rfl) (hpl : (backTo pos (starEach es X.env)).any (·.1) = false := by rfl)
    (ht : eval (.Call (.Attribute o m apos) (e :: es) [] pos) X.env = (do
      let ov ← eval o X.env
      standAt apos.atName
      let (f, first) ← holding [ov] (getMethod ov m pl)
      callWith pos f first (backTo pos (starEach (e :: es) X.env)) (backToKw pos (keywordEach [] X.env))) := by rfl) :
    PE X (.Call (.Attribute o m apos) (e :: es) [] pos) (tSMethS C sp E ta t) := by
  obtain ⟨p, g, F, r⟩ := c
  obtain ⟨e1, e2, e3, e4, e5⟩ := z
  have F' : FnR X.prog X.w X.K X.mg X.base CX k g sp := by rw [e1, e2, e3, e4, e5]; exact F
  rw [← e3] at r
  refine ⟨fun pins s σ H Q I h => ?_⟩
  refine methodCall_KW (pl := pl) (thn (he.run pins s σ H _ I h) fun u s1 ⟨x, H1, I1, rx, ex, q⟩ => ?_) ht
  subst ex
  obtain rfl : u = Value.ref C := rx
  refine getsm_ok I1 r fun s2 I2 => ?_
  refine callWith_K (h₀ := X.base) I2.ok.mod.kin r.kp (thn (ha.run pos _ s2 σ H1 _ I2 q) fun us s3 ⟨vs, H2, I3, rv, q2⟩ => ⟨I3.kIn, ?_⟩) hst hpl
  refine wpAny_call (codeAny_mono (F' X.A X.stack s3 H2 us vs Q (E σ) hr I3.env0 rv q2) fun r s' hq => ?_)
  cases r with
  | error e => exact hx σ _ _ _ _ _ I3 hq
  | ok fl =>
    cases fl with
    | ret u => exact I3.after hq
    | next => exact False.elim hq
    | brk => exact False.elim hq
    | cont => exact False.elim hq
end
/-- what read tells -/
def tellR (H : Hp) (Q : VK) (x : PySem.Str) : Prop := match pfL (tl x) with
  | some q => NewL H Q [.str "share", .int q.1, .int q.2]
  | none => NewL H Q [.str "text", .str (PyData.str x).shown]
def spRead (K : Frag) : Sp := fun vs H Q _ => ∃ v, vs = [v] ∧ ((∃ x, v = .str x ∧ x.length ≤ 300 ∧ Rp (.str x) ∧ (∀ q, pfL (tl x) = some q → Sz 9000 q) ∧ tellR H Q x) ∨ (∃ d, NotStr K H v ∧ Dp K H v d ∧ Rp d ∧ NewL H Q [.str "text", .str d.shown]))
section
variable {Z : Cz} {f C CB P fB : Addr} {fd : FuncData}
theorem ok_read (F : Fun Z.K "_law_read" "_law_read" s_lw_read f fd) (T : ShT Z C) (Y : TxT Z) (TB : TText Z CB P fB) (eTT : exmOne Z.K (.ref CB) (.ref CB) = some true) (c_parse : CalT Z (CXN Z) 6 C "parse" (spParse Z.K C CB))
    (c_top : CalP Z CX0 1 C "top" (spGet C 9000 fun q => .int q.1)) (c_under : CalP Z CX0 1 C "under" (spGet C 9000 fun q => .int q.2)) : FnG Z.P Z.w Z.K Z.mg Z.base CX0 7 f fd ["_law_text"] (spRead Z.K) := by
  refine Fun.okG F sc_lw_read (fun vs H Q E h => ?_) (fun cdv A outer s H vs Q E hr hgd h => ?_)
  · obtain ⟨v, rfl, _⟩ := h
    rfl
  · obtain ⟨v, rfl, h⟩ := h
    have nd := sc_lw_read.nd
    refine ⟨_, PSs.nox (pss_cons (ps_set (i := 1) nd rfl (Or.inl rfl) pe_non)
      (pss_cons (ps_tryN (Wout := fun _ _ _ _ => False) rfl rfl nd takesN0
        (fun W pn xe tk _ => pss_one (ps_set (i := 1) nd rfl (Or.inl rfl) (pe_calTS c_parse hr (fun σ => L2N.passAt tk σ) (pe_glob (v := .ref C) rfl T.mgC rfl) (pa_cons (pv 0) pa_nil))))
        (HdsN.cons (i := 2) rfl rfl ⟨rfl, by decide, Or.inl TB.gC⟩ (fun a oe cls d pn hz hf => pss_one (ps_ret (pe_lst (pa_cons pe_str (pa_cons (pe_callB (show CallR _ _ (rRepr Z.K) from call_repr hgd hr.units) (by rfl) Y.repr (by decide +kernel) (pa_cons (pe_xf TB.xf TB.noN hz.zc hf (pv 2)) pa_nil)) pa_nil))))) .nil))
      (pss_one (ps_ret (pe_lst (pa_cons pe_str (pa_cons (pe_calP c_top (hr.mono (by decide)) pass0 (pv 1) rfl) (pa_cons (pe_calP c_under (hr.mono (by decide)) pass0 (pv 1) rfl) pa_nil))))))) ), ?_⟩
    refine ⟨rfl, _, rfl, v, rfl, ?_⟩
    rcases h with ⟨x, rfl, hx, hR, hz, k⟩ | ⟨dd, hn, hd, hR, k⟩
    · refine .inl ⟨x, rfl, hx, ?_⟩
      unfold tellR at k
      cases hp : pfL (tl x) with
      | some q =>
        rw [hp] at k
        refine .inl ⟨q, rfl, fun v' H' e hv => ?_⟩
        obtain ⟨a, dx, rfl, ha⟩ := id hv
        have hz := hz q hp
        refine ⟨_, rfl, a, dx, _, rfl, ha, _, q, rfl, hv, hz, _, rfl, a, dx, _, rfl, ha, _, q, rfl, hv, hz, (by show 3 ≤ sizeLine; decide), fun p hp => ?_⟩
        exact k.here e hp
      | none =>
        rw [hp] at k
        refine .inr ⟨rfl, fun d H' e hd hx' => ?_⟩
        refine ⟨true, eTT, fun _ a ha => ?_, fun z => by cases z⟩
        refine ⟨_, rfl, rfl, rfl, d, _, _, rfl, hx', lookup_one, ?_⟩
        exact ⟨_, _, rfl, .str x, hR.show_, hR.nod, hR.d60, hR.sz, (by show 2 ≤ sizeLine; decide), fun p hp => k.here e hp⟩
    · refine .inr ⟨hn, fun d H' e hd' hx' => ?_⟩
      refine ⟨true, eTT, fun _ a ha => ?_, fun z => by cases z⟩
      refine ⟨_, rfl, rfl, rfl, d, _, _, rfl, hx', lookup_one, ?_⟩
      exact ⟨_, _, rfl, Dp.mono e hd, hR.show_, hR.nod, hR.d60, hR.sz, (by show 2 ≤ sizeLine; decide), fun p hp => k.here e hp⟩
theorem dbl_le (c : Nat) : ∀ l : List Nat, (StrLaws.dbl c l).length ≤ 2 * l.length
  | [] => by simp [StrLaws.dbl]
  | d :: r => by
    have ih := dbl_le c r
    unfold StrLaws.dbl
    split <;> simp only [List.length_cons] <;> omega
def spBent : Sp := fun vs H Q _ => ∃ (p q : Addr) (ms : List Int) (i : Nat) (x : PySem.Str), vs = [.ref p, .str x] ∧ Pool H p q ms i ∧ i < 1000 ∧ x.length ≤ 100 ∧
  ∀ y H', tl y ∈ bents (tl x) → y.length ≤ 300 → Keep p H H' → Pool H' p q ms (i + 1) → Q (.str y) H'
theorem ok_bent (F : Fun Z.K "_law_bent" "_law_bent" s_lw_bent f fd) (c_lw_draw : Cal Z CX0 1 "_law_draw" ["_law_pool_here", "_law_many"] [] spDraw) : Z.ok CX0 2 f fd ["_law_pool_here", "_law_text"] spBent := by
  refine F.ok sc_lw_bent (fun vs H Q E h => ?_) (fun cdv A outer s H vs Q E hr h => ?_)
  · obtain ⟨p, q, ms, i, x, rfl, _⟩ := h
    rfl
  · obtain ⟨p, q, ms, i, x, rfl, hP, hi, hx, k⟩ := h
    have nd := sc_lw_bent.nd
    refine ⟨_, pss_cons (ps_set (i := 2) nd rfl (Or.inl rfl) (pe_lst (pa_cons (pv 1) (pa_litCons op_add_str (pv 1) (pat_cons (CwR.PET.of (pe_op op_add_str (pv 1) pe_str)) (pat_cons (CwR.PET.of (pe_op op_add_str pe_str (pv 1))) (pat_cons (CwR.PET.of (pe_op op_add_str pe_str (pv 1))) (pat_cons (CwR.PET.of (pe_op op_add_str (pv 1) pe_str)) (pat_cons (CwR.PET.of (pe_op op_add_str pe_str (pv 1))) (pat_cons (CwR.pet_replC (pv 1)) pat_nil)))))))))) (pss_one (ps_ret (pe_ix ix_list (pv 2) (pe_cal c_lw_draw (hr.mono (by decide)) (by rfl) pass0 (pa_cons (pv 0) (pa_cons pe_int pa_nil))) (fun _ _ => rfl)))), ?_⟩
    have n1 : ∀ t : PySem.Str, t.length ≤ 2 → t.length + x.length ≤ sizeLine := fun t h => big (by omega)
    have n2 : ∀ t : PySem.Str, t.length ≤ 2 → x.length + t.length ≤ sizeLine := fun t h => big (by omega)
    refine ⟨_, rfl, _, rfl, _, _, rfl, rfl, n1 _ (by decide +kernel), _, rfl, _, _, rfl, rfl, n2 _ (by decide +kernel), _, rfl, _, _, rfl, rfl, n1 _ (by decide +kernel), _, rfl, _, _, rfl, rfl, n1 _ (by decide +kernel), _, rfl, _, _, rfl, rfl, n2 _ (by decide +kernel), _, rfl, _, _, rfl, rfl, n1 _ (by decide +kernel), _, rfl, x, rfl, ?_, (by show 8 ≤ sizeLine; decide), fun L hL => ?_⟩
    · have e : (PySem.Str.ofString "//").length = 2 := by decide +kernel
      rw [e]
      omega
    have hLp : L ≠ p := (ne_of_none hP.at_ hL).symm
    refine ⟨_, rfl, _, rfl, p, q, ms, i, 8, rfl, hP.new hL, by decide, by omega, fun r H3 r0 r1 e3 P3 => ?_⟩
    have k3 : Keep p H H3 := (Keep.of_same (Same.upd hL)).trans (Keep.of_eq e3)
    have hL3 := (e3 L hLp).trans (upd_same (H := H) (a := L))
    have fin : ∀ y : PySem.Str, tl y ∈ bents (tl x) → Q (.str y) H3 := fun y hy => by
      refine k y H3 hy ?_ k3 P3
      rw [len_tl]
      have hx' := hx
      rw [len_tl] at hx'
      simp only [bents, List.mem_cons, List.not_mem_nil, or_false] at hy
      have hd := dbl_le 47 (tl x)
      rcases hy with h | h | h | h | h | h | h | h <;> rw [h] <;> (try simp only [List.length_cons, List.length_append, List.length_nil]) <;> omega
    rcases (show r = 0 ∨ r = 1 ∨ r = 2 ∨ r = 3 ∨ r = 4 ∨ r = 5 ∨ r = 6 ∨ r = 7 by omega) with rfl | rfl | rfl | rfl | rfl | rfl | rfl | rfl
    · exact ⟨L, _, _, _, rfl, rfl, SqL.of hL3, atI_nat (j := 0) rfl, fin _ (by simp [bents])⟩
    · exact ⟨L, _, _, _, rfl, rfl, SqL.of hL3, atI_nat (j := 1) rfl, fin _ (by rw [tl_append, show tl (PySem.Str.ofString " ") = [32] by decide +kernel]; simp [bents])⟩
    · exact ⟨L, _, _, _, rfl, rfl, SqL.of hL3, atI_nat (j := 2) rfl, fin _ (by rw [tl_append, show tl (PySem.Str.ofString "/1") = [47, 49] by decide +kernel]; simp [bents])⟩
    · exact ⟨L, _, _, _, rfl, rfl, SqL.of hL3, atI_nat (j := 3) rfl, fin _ (by rw [tl_append, show tl (PySem.Str.ofString "+") = [43] by decide +kernel]; simp [bents])⟩
    · exact ⟨L, _, _, _, rfl, rfl, SqL.of hL3, atI_nat (j := 4) rfl, fin _ (by rw [tl_append, show tl (PySem.Str.ofString "0") = [48] by decide +kernel]; simp [bents])⟩
    · exact ⟨L, _, _, _, rfl, rfl, SqL.of hL3, atI_nat (j := 5) rfl, fin _ (by rw [tl_append, show tl (PySem.Str.ofString "/") = [47] by decide +kernel]; simp [bents])⟩
    · exact ⟨L, _, _, _, rfl, rfl, SqL.of hL3, atI_nat (j := 6) rfl, fin _ (by rw [tl_append, show tl (PySem.Str.ofString "-") = [45] by decide +kernel]; simp [bents])⟩
    · exact ⟨L, _, _, _, rfl, rfl, SqL.of hL3, atI_nat (j := 7) rfl, fin _ (by rw [tl_dbl]; simp [bents])⟩
end
end Ps

/-! k02: own_read, right. -/
namespace Ps
open PySem PySem.Spec PyProof.Rows PySem.W L2 TL

theorem eqv_ints (a b c d : Int) : PyData.eqv (.list [.int a, .int b]) (.list [.int c, .int d]) = decide ((a, b) = (c, d)) := by
  simp only [PyData.eqv, PyData.eqvAll, Bool.and_true]
  by_cases h : (a, b) = (c, d)
  · obtain ⟨rfl, rfl⟩ := Prod.mk.inj h
    simp
  · rw [decide_eq_false h]
    cases h1 : a == c with
    | false => rfl
    | true =>
      rw [Bool.true_and]
      exact beq_eq_false_iff_ne.mpr fun z => h (by rw [eq_of_beq h1, z])
def spOwn : Sp := fun vs H Q _ => ∃ x, vs = [.str x] ∧ Rp (.str x) ∧ inR (pfL (tl x)) = true ∧ tellR H Q x
theorem inR_of {q : Int × Int} (h : inR (some q) = true) : -31 ≤ q.1 ∧ q.1 ≤ 31 ∧ 1 ≤ q.2 ∧ q.2 ≤ 31 ∧ low q.1 q.2 = q := by
  unfold inR at h
  simpa using h
section
variable {Z : Cz} {f C CB P fB : Addr} {fd : FuncData}
theorem ok_own_read (F : Fun Z.K "_law_own_read" "_law_own_read" s_lw_own_read f fd) (T : ShT Z C) (D : DrT Z) (Y : TxT Z) (c_low : CLow Z) (c_wr : Cal Z CX0 1 "_law_written" ["_law_pair"] [] spWritten) : FnG Z.P Z.w Z.K Z.mg Z.base CX0 2 f fd ["_law_text"] spOwn := by
  refine Fun.okG F sc_lw_own_read (fun vs H Q E h => ?_) (fun cdv A outer s H vs Q E hr hgd h => ?_)
  · obtain ⟨x, rfl, _⟩ := h
    rfl
  · obtain ⟨x, rfl, hR, hin, k⟩ := h
    refine ⟨_, PSs.nox (pss_cons (ps_set (i := 1) sc_lw_own_read.nd rfl (Or.inl rfl) (pe_lst (pa_cons pe_str (pa_cons (pe_callB (show CallR _ _ (rRepr Z.K) from call_repr hgd hr.units) (by rfl) Y.repr (by decide +kernel) (pa_cons (pv 0) pa_nil)) pa_nil))))
      (pss_cons (ps_if (pt_not (pt_val (pe_callB call_isi (by rfl) T.isi (by decide +kernel) (pa_cons (pv 0) (pa_cons (pe_ty "str" (by rfl) Y.str (by decide +kernel)) pa_nil)))))
      (pss_one (ps_ret (pv 1)))
      pss_nil)
      (pss_cons (ps_for PassesOwn.never rfl (pi_range2 (by rfl) D.range (pa_cons (pe_un un_neg pe_int) (pa_cons pe_int pa_nil))) (pg_name (i := 2) sc_lw_own_read.nd rfl (Or.inl rfl))
      (pss_one (ps_for PassesOwn.never rfl (pi_range2 (by rfl) D.range (pa_cons pe_int (pa_cons pe_int pa_nil))) (pg_name (i := 3) sc_lw_own_read.nd rfl (Or.inl rfl))
        (pss_one (ps_if (PW.pt (pw_and (pt_cmpR (op_eqD hr.units) (pe_cal c_low (hr.mono (by decide)) (by rfl) pass0 (pa_cons (pv 2) (pa_cons (pv 3) pa_nil))) (pe_lst (pa_cons (pv 2) (pa_cons (pv 3) pa_nil))) (nomark _)) (pw_and1 (pt_cmpR op_eq (pe_cal c_wr (hr.mono (by decide)) (by rfl) pass0 (pa_cons (pe_lst (pa_cons (pv 2) (pa_cons (pv 3) pa_nil))) pa_nil)) (pv 0) (nomark _)))))
          (pss_one (ps_ret (pe_lst (pa_cons pe_str (pa_cons (pv 2) (pa_cons (pv 3) pa_nil))))))
          pss_nil)))))
      (pss_one (ps_ret (pv 1)))))), ?_⟩
    refine ⟨_, rfl, _, _, rfl, .str x, hR.show_, hR.nod, hR.d60, hR.sz, (by show 2 ≤ sizeLine; decide), fun p hp => ?_⟩
    refine ⟨_, rfl, _, _, _, _, true, rfl, .ty "str", .base (.str x), kit_ty (by decide +kernel), _, rfl, iteF ?_⟩
    have e1 : Same H (upd H p (.lst [.str "text", .str (PyData.str x).shown])) := Same.upd hp
    have hp1 : (upd H p (.lst [.str "text", .str (PyData.str x).shown])) p = some (.lst [.str "text", .str (PyData.str x).shown]) := upd_same
    generalize (upd H p (.lst [.str "text", .str (PyData.str x).shown])) = H1 at e1 hp1
    refine ⟨_, rfl, _, _, rfl, by decide, for_range (lo := -31) (n := 63) (fun i σ H' => ∃ o2 o3, σ = [some (.str x), some (.ref p), o2, o3] ∧ Same H1 H' ∧ ∀ q, pfL (tl x) = some q → ¬ q.1 < -31 + (i : Int)) ⟨_, _, rfl, Same.refl _, fun q hq z => ?_⟩ ?_ ?_⟩
    · rw [hq] at hin
      have := inR_of hin
      omega
    · rintro i σ H2 hi ⟨o2, o3, rfl, e2, n2⟩
      refine ⟨_, _, rfl, by decide, for_range (lo := 1) (n := 31) (fun j σ H' => ∃ o3, σ = [some (.str x), some (.ref p), some (.int (-31 + (i : Int))), o3] ∧ Same H1 H' ∧ ∀ q, pfL (tl x) = some q → ¬ q.1 < -31 + (i : Int) ∧ ¬ (q.1 = -31 + (i : Int) ∧ q.2 < 1 + (j : Int))) ⟨_, rfl, e2, fun q hq => ⟨n2 q hq, fun z => ?_⟩⟩ ?_ ?_⟩
      · rw [hq] at hin
        have := inR_of hin
        omega
      · rintro j σ H3 hj ⟨o3, rfl, e3, n3⟩
        have hu0 : (1 + (j : Int)) ≠ 0 := by omega
        have hsz : Sz 1000 (-31 + (i : Int), 1 + (j : Int)) := ⟨hu0, lt_up (m := 10) (by show (-31 + (i : Int)).natAbs < 2 ^ 10; omega) (by decide), lt_up (m := 10) (by show (1 + (j : Int)).natAbs < 2 ^ 10; omega) (by decide)⟩
        have miss : ¬ (low (-31 + (i : Int)) (1 + (j : Int)) = (-31 + (i : Int), 1 + (j : Int)) ∧ wr (-31 + (i : Int), 1 + (j : Int)) = x) → ∀ q, pfL (tl x) = some q → ¬ q.1 < -31 + (i : Int) ∧ ¬ (q.1 = -31 + (i : Int) ∧ q.2 < 1 + ((j + 1 : Nat) : Int)) := by
          intro hm q hq
          refine ⟨(n3 q hq).1, fun ⟨z1, z2⟩ => ?_⟩
          have h3 := (n3 q hq).2
          have e : q = (-31 + (i : Int), 1 + (j : Int)) := Prod.ext z1 (by show q.2 = 1 + (j : Int); omega)
          rw [hq] at hin
          have hi5 := (inR_of hin).2.2.2.2
          refine hm ⟨?_, ?_⟩
          · rw [e] at hi5
            exact hi5
          · rw [← e]
            exact ext_tl ((tl_wr q).trans (pf_wr hq))
        refine ⟨_, rfl, _, rfl, _, _, rfl, hu0, lt_up hsz.u (by decide), fun pl H4 e4 hpl h4 => ?_⟩
        refine ⟨_, rfl, _, rfl, (by show 2 ≤ sizeLine; decide), fun pm hpm => ?_⟩
        refine ⟨_, _, pair_dp (Same.upd hpm _ _ h4), .lst (SqL.of upd_same) (.cons (.int _) (.cons (.int _) .nil)), rfl, rfl, _, rfl, ?_⟩
        have e5 : Same H1 (upd H4 pm (.lst [.int (-31 + (i : Int)), .int (1 + (j : Int))])) := (e3.trans e4).trans (Same.upd hpm)
        generalize (upd H4 pm (.lst [.int (-31 + (i : Int)), .int (1 + (j : Int))])) = H5 at e5
        rw [eqv_ints]
        refine iteD (fun hl => ?_) (fun hl => ?_)
        · refine ⟨_, rfl, _, rfl, (by show 2 ≤ sizeLine; decide), fun pn hpn => ?_⟩
          refine ⟨pn, (-31 + (i : Int), 1 + (j : Int)), rfl, upd_same, hsz, _, rfl, rfl, _, rfl, iteD (fun hw => ?_) (fun hw => ?_)⟩
          · have hw := V.str.inj hw
            have hpf : pfL (tl x) = some (-31 + (i : Int), 1 + (j : Int)) := by
              rw [← hw, tl_wr]
              exact pf_self (by omega) (by omega) (by omega) (by omega) hl
            unfold tellR at k
            rw [hpf] at k
            exact ⟨_, rfl, _, rfl, (by show 3 ≤ sizeLine; decide), fun ph hph => k.here ((e1.trans e5).trans (Same.upd hpn)) hph⟩
          · exact ⟨_, rfl, e5.trans (Same.upd hpn), miss fun z => hw (by rw [z.2])⟩
        · exact ⟨_, rfl, e5, miss fun z => hl z.1⟩
      · rintro σ H3 ⟨o3, rfl, e3, n3⟩
        refine ⟨_, _, rfl, e3, fun q hq z => ?_⟩
        have h3 := n3 q hq
        rw [hq] at hin
        have := inR_of hin
        omega
    · rintro σ H2 ⟨o2, o3, rfl, e2, n2⟩
      have hpf : pfL (tl x) = none := by
        cases hq : pfL (tl x) with
        | none => rfl
        | some q =>
          have h3 := n2 q hq
          rw [hq] at hin
          have := inR_of hin
          omega
      unfold tellR at k
      rw [hpf] at k
      exact ⟨_, rfl, k p H2 (e1.trans e2) hp (e2 _ _ hp1)⟩
end
end Ps

/-! k02: right. -/
namespace Ps
open PySem PySem.Spec PyProof.Rows PySem.W L2 TL

theorem ne_lists {K : Frag} {H : Hp} {po pd : Addr} {g l r : Int} {Q : VK} (ho : H po = some (.lst (ordL g))) (hd : H pd = some (.lst (dueL l r))) (hg : g = l - r) (h : Q (.bl false) H) : rNeD K (.ref po) (.ref pd) H Q := by
  rw [due_ord, ← hg] at hd
  refine ⟨.list [.bool _, .bool _, .bool _, .bool _, .bool _], .list [.bool _, .bool _, .bool _, .bool _, .bool _], .lst (SqL.of ho) (.cons (.bl _) (.cons (.bl _) (.cons (.bl _) (.cons (.bl _) (.cons (.bl _) .nil))))), .lst (SqL.of hd) (.cons (.bl _) (.cons (.bl _) (.cons (.bl _) (.cons (.bl _) (.cons (.bl _) .nil))))), rfl, rfl, ?_⟩
  rw [SeqAt.eqv_refl _ rfl]
  exact h
theorem str_not {Z : Cz} {C : Addr} (T : ShT Z C) {H : Hp} (z : PySem.Str) : NotNum Z.K C H (.str z) := ⟨_, .base (.str z), T.kTC _ (by simp), nf_str, .inr (kit_ty (by decide +kernel))⟩
def spRight : Sp := fun vs H Q _ => ∃ (a b : Addr) (q r : Int × Int) (m : Int), vs = [.ref a, .ref b, .int m] ∧ H a = some (.lst (pair q)) ∧ H b = some (.lst (pair r)) ∧ low q.1 q.2 = q ∧ low r.1 r.2 = r ∧ Sz 100 q ∧ Sz 100 r ∧ m.natAbs ≤ 100 ∧ ∀ H', Same H H' → Q (.bl true) H'
section
variable {Z : Cz} {f C CB P fB : Addr} {fd : FuncData}
theorem ok_right (F : Fun Z.K "_law_right" "_law_right" s_lw_right f fd) (T : ShT Z C) (Y : TxT Z) (M : ShO Z C) (c_ord : Cal Z CX0 7 "_law_orders" ["_law_one", "_law_other"] [] (spOrders C)) (c_due : Cal Z CX0 1 "_law_due" ["_law_left", "_law_right_here"] [] spDue2) (c_wr : Cal Z CX0 1 "_law_written" ["_law_pair"] [] spWritten) : Z.ok CX0 8 f fd ["_law_one", "_law_other", "_law_more"] spRight := by
  refine F.ok sc_lw_right (fun vs H Q E h => ?_) (fun cdv A outer s H vs Q E hr h => ?_)
  · obtain ⟨a, b, q, r, m, rfl, _⟩ := h
    rfl
  · obtain ⟨a, b, q, r, m, rfl, ha, hb, lq, lr, hq, hr', hm, k⟩ := h
    refine ⟨_, (pss_cons (ps_par (i := 3) (j := 4) (by rfl) sc_lw_right.nd rfl rfl (by decide) rfl rfl (pa_cons (pe_calC M.new (hr.mono (by decide)) (by rfl) pass0 (pa_cons (pe_ix ix_list (pv 0) pe_int (fun _ _ => rfl)) (pa_cons (pe_ix ix_list (pv 0) pe_int (fun _ _ => rfl)) pa_nil))) (pa_cons (pe_calC M.new (hr.mono (by decide)) (by rfl) pass0 (pa_cons (pe_ix ix_list (pv 1) pe_int (fun _ _ => rfl)) (pa_cons (pe_ix ix_list (pv 1) pe_int (fun _ _ => rfl)) pa_nil))) pa_nil)) (by rfl))
      (pss_cons (ps_if (pt_cmpR (op_neD hr.units) (pe_cal c_ord hr (by rfl) pass0 (pa_cons (pv 3) (pa_cons (pv 4) pa_nil))) (pe_cal c_due (hr.mono (by decide)) (by rfl) pass0 (pa_cons (pe_op op_mulW (pe_ix ix_list (pv 0) pe_int (fun _ _ => rfl)) (pe_ix ix_list (pv 1) pe_int (fun _ _ => rfl))) (pa_cons (pe_op op_mulW (pe_ix ix_list (pv 1) pe_int (fun _ _ => rfl)) (pe_ix ix_list (pv 0) pe_int (fun _ _ => rfl))) pa_nil))) (nomark _))
      (pss_one (ps_ret pe_bl))
      pss_nil)
      (pss_cons (ps_if (pt_cmpR (op_neD hr.units) (pe_cal c_ord hr (by rfl) pass0 (pa_cons (pv 3) (pa_cons (pv 2) pa_nil))) (pe_cal c_due (hr.mono (by decide)) (by rfl) pass0 (pa_cons (pe_ix ix_list (pv 0) pe_int (fun _ _ => rfl)) (pa_cons (pe_op op_mulW (pv 2) (pe_ix ix_list (pv 0) pe_int (fun _ _ => rfl))) pa_nil))) (nomark _))
      (pss_one (ps_ret pe_bl))
      pss_nil)
      (pss_cons (ps_if (PW.pt (pw_or (pt_cmpR (op_neD hr.units) (pe_cal c_ord hr (by rfl) pass0 (pa_cons (pv 2) (pa_cons (pv 3) pa_nil))) (pe_cal c_due (hr.mono (by decide)) (by rfl) pass0 (pa_cons (pe_op op_mulW (pv 2) (pe_ix ix_list (pv 0) pe_int (fun _ _ => rfl))) (pa_cons (pe_ix ix_list (pv 0) pe_int (fun _ _ => rfl)) pa_nil))) (nomark _)) (pw_or1 (pt_cmpR op_ne (pe_callTy (bool_cal M.bool (hr.mono (by decide)) pass0) (by rfl) T.bool (by decide +kernel) (pa_cons (pv 3) pa_nil)) (pe_cmpR op_ne (pe_ix ix_list (pv 0) pe_int (fun _ _ => rfl)) pe_int (nomark _)) (nomark _)))))
      (pss_one (ps_ret pe_bl))
      pss_nil)
      (pss_cons (ps_set (i := 5) sc_lw_right.nd rfl (Or.inl rfl) (pe_cal c_wr (hr.mono (by decide)) (by rfl) pass0 (pa_cons (pv 0) pa_nil)))
      (pss_one (ps_ret (pe_and (pe_cmpR op_eq (pe_callTy (str_cal M.str (hr.mono (by decide)) pass0) (by rfl) Y.str (by decide +kernel) (pa_cons (pv 3) pa_nil)) (pv 5) (nomark _)) (pe_and (pe_cmpR op_eq (pe_callB (repr_cal M.repr (hr.mono (by decide)) pass0) (by rfl) Y.repr (by decide +kernel) (pa_cons (pv 3) pa_nil)) (pe_op op_add_str (pe_op op_add_str (pe_op op_add_str (pe_op op_add_str pe_str (pe_callTy call_str_int (by rfl) Y.str (by decide +kernel) (pa_cons (pe_ix ix_list (pv 0) pe_int (fun _ _ => rfl)) pa_nil))) pe_str) (pe_callTy call_str_int (by rfl) Y.str (by decide +kernel) (pa_cons (pe_ix ix_list (pv 0) pe_int (fun _ _ => rfl)) pa_nil))) pe_str) (nomark _)) (pe_one (pe_cmpR (op_ne_ M.eq M.ne hr pass0) (pv 3) (pv 5) (nomark _)))))))))))), ?_⟩
    refine ⟨_, rfl, a, _, 0, _, rfl, rfl, SqL.of ha, atI_nat (j := 0) rfl, _, rfl, a, _, 1, _, rfl, rfl, SqL.of ha, atI_nat (j := 1) rfl, ?_⟩
    intro xa dxa g1 g2 g3
    refine mk_shI hq.ne (lt_up hq.u (by decide)) g1 g2 g3 fun H1 e1 z1 => ⟨rfl, ?_⟩
    rw [lq] at z1
    have hb1 := e1 _ _ hb
    refine ⟨_, rfl, b, _, 0, _, rfl, rfl, SqL.of hb1, atI_nat (j := 0) rfl, _, rfl, b, _, 1, _, rfl, rfl, SqL.of hb1, atI_nat (j := 1) rfl, ?_⟩
    intro xb dxb g4 g5 g6
    refine mk_shI hr'.ne (lt_up hr'.u (by decide)) g4 g5 g6 fun H2 e2 z2 => ⟨rfl, ?_⟩
    rw [lr] at z2
    have z1 := z1.mono e2
    have e2 := e1.trans e2
    have ha2 := e2 _ _ ha
    have hb2 := e2 _ _ hb
    have q4 : Sz 4000 q := hq.up (by decide)
    have r4 : Sz 4000 r := hr'.up (by decide)
    have m4 : m.natAbs < 2 ^ 4000 := small4000 (by omega)
    have mz : Sz 4000 (m, 1) := ⟨(by show (1 : Int) ≠ 0; decide), m4, (by show (1 : Int).natAbs < 2 ^ 4000; decide +kernel)⟩
    refine ⟨_, _, rfl, ?_⟩
    -- first and second
    refine ⟨_, rfl, _, rfl, _, _, _, rfl, .inl ⟨q, r, z1, .inl z2, q4, r4, rfl⟩, fun p1 H3 e3 hp1 h3 => ?_⟩
    have e3' := e2.trans e3
    have ha3 := e3' _ _ ha
    have hb3 := e3' _ _ hb
    refine ⟨_, rfl, a, _, 0, _, rfl, rfl, SqL.of ha3, atI_nat (j := 0) rfl, _, rfl, b, _, 1, _, rfl, rfl, SqL.of hb3, atI_nat (j := 1) rfl, _, _, rfl, rfl, lt_mul q4.t r4.u, ?_⟩
    refine ⟨_, rfl, b, _, 0, _, rfl, rfl, SqL.of hb3, atI_nat (j := 0) rfl, _, rfl, a, _, 1, _, rfl, rfl, SqL.of ha3, atI_nat (j := 1) rfl, _, _, rfl, rfl, lt_mul r4.t q4.u, ?_⟩
    refine ⟨_, _, rfl, fun p2 H4 e4 hp2 h4 => ne_lists (e4 _ _ h3) h4 rfl ⟨_, rfl, iteF ?_⟩⟩
    have e4' := e3'.trans e4
    have z1 := (z1.mono e3).mono e4
    have ha4 := e4' _ _ ha
    clear h3 h4 hp1 hp2 ha3 hb3 e3 e4 e3'
    -- first and more
    refine ⟨_, rfl, _, rfl, _, _, _, rfl, .inl ⟨q, (m, 1), z1, .inr ⟨m, rfl, rfl⟩, q4, mz, rfl⟩, fun p1 H5 e5 hp1 h5 => ?_⟩
    have ha5 := e5 _ _ ha4
    refine ⟨_, rfl, a, _, 0, _, rfl, rfl, SqL.of ha5, atI_nat (j := 0) rfl, ?_⟩
    refine ⟨_, rfl, _, rfl, a, _, 1, _, rfl, rfl, SqL.of ha5, atI_nat (j := 1) rfl, _, _, rfl, rfl, lt_mul m4 q4.u, ?_⟩
    refine ⟨_, _, rfl, fun p2 H6 e6 hp2 h6 => ne_lists (e6 _ _ h5) h6 (by unfold gMin; rw [Int.mul_one]) ⟨_, rfl, iteF ?_⟩⟩
    have e6' := (e4'.trans e5).trans e6
    have z1 := (z1.mono e5).mono e6
    have ha6 := e6' _ _ ha
    clear h5 h6 hp1 hp2 ha5 e5 e6
    -- more and first
    refine ⟨_, rfl, _, rfl, _, _, _, rfl, .inr ⟨m, q, rfl, z1, q4, mz, rfl⟩, fun p1 H7 e7 hp1 h7 => ?_⟩
    have ha7 := e7 _ _ ha6
    refine ⟨_, rfl, _, rfl, a, _, 1, _, rfl, rfl, SqL.of ha7, atI_nat (j := 1) rfl, _, _, rfl, rfl, lt_mul m4 q4.u, ?_⟩
    refine ⟨_, rfl, a, _, 0, _, rfl, rfl, SqL.of ha7, atI_nat (j := 0) rfl, ?_⟩
    refine ⟨_, _, rfl, fun p2 H8 e8 hp2 h8 => ne_lists (e8 _ _ h7) h8 (by unfold gMin; rw [Int.mul_one]; show -(q.1 - m * q.2) = m * q.2 - q.1; omega) ⟨_, rfl, iteF ?_⟩⟩
    have e8' := (e6'.trans e7).trans e8
    have z1 := (z1.mono e7).mono e8
    have ha8 := e8' _ _ ha
    clear h7 h8 hp1 hp2 ha7 e7 e8
    -- bool
    refine ⟨_, rfl, _, rfl, z1.ins, _, q, rfl, z1, hq.up (by decide), ⟨_, rfl, ?_⟩⟩
    refine ⟨_, rfl, a, _, 0, _, rfl, rfl, SqL.of ha8, atI_nat (j := 0) rfl, rfl, rfl, _, rfl, ?_⟩
    rw [show (!decide (V.bl (q.1 != 0) = V.bl (!decide (V.int q.1 = V.int 0)))) = false by
      by_cases h0 : q.1 = 0
      · rw [h0]; rfl
      · rw [decide_eq_false (vne h0), bne_iff_ne.mpr h0]; rfl]
    refine iteF ?_
    have q1 : Sz 1000 q := hq.up (by decide)
    have l1 : q.1.natAbs.log2 < 1920 := Nat.lt_trans (log_lt q1.t) (by decide)
    have l2 : q.2.natAbs.log2 < 1920 := Nat.lt_trans (log_lt q1.u) (by decide)
    have s1 := st_len q1.t
    have s2 := st_len q1.u
    refine ⟨_, rfl, a, q, rfl, ha8, q1, ?_⟩
    -- str
    refine ⟨_, rfl, _, rfl, z1.ins, _, q, rfl, z1, q1, ⟨_, rfl, _, rfl, rfl, _, rfl, ?_⟩⟩
    rw [decide_eq_true rfl]
    refine iteT ?_
    -- repr
    refine ⟨_, rfl, _, rfl, z1.ins, _, q, rfl, z1, q1, ⟨_, rfl, ?_⟩⟩
    refine ⟨_, rfl, a, _, 0, _, rfl, rfl, SqL.of ha8, atI_nat (j := 0) rfl, _, rfl, l1, _, _, rfl, rfl, ?_, _, _, rfl, rfl, ?_, ?_⟩
    · exact big (by rw [show ((toString q.1 : String) : PySem.Str) = st q.1 from rfl, len_rp1]; omega)
    · exact big (by rw [show ((toString q.1 : String) : PySem.Str) = st q.1 from rfl, Str.length_append, len_rp1, len_rp2]; omega)
    refine ⟨_, rfl, a, _, 1, _, rfl, rfl, SqL.of ha8, atI_nat (j := 1) rfl, _, rfl, l2, _, _, rfl, rfl, ?_, _, _, rfl, rfl, ?_, rfl, ?_⟩
    · exact big (by rw [show ((toString q.1 : String) : PySem.Str) = st q.1 from rfl, show ((toString q.2 : String) : PySem.Str) = st q.2 from rfl, Str.length_append, Str.length_append, len_rp1, len_rp2]; omega)
    · exact big (by rw [show ((toString q.1 : String) : PySem.Str) = st q.1 from rfl, show ((toString q.2 : String) : PySem.Str) = st q.2 from rfl, Str.length_append, Str.length_append, Str.length_append, len_rp1, len_rp2, len_rp3]; omega)
    refine ⟨_, rfl, ?_⟩
    refine iteD (fun _ => ?_) (fun h => absurd rfl h)
    -- !=
    exact ⟨_, rfl, _, rfl, z1.ins, (str_not T _).nf, _, _, _, rfl, z1, .inr ⟨str_not T _, false, rfl, k _ e8'⟩⟩
end
end Ps

/-! k02: the law. -/
namespace Ps
open PySem PySem.Spec PyProof.Rows PySem.W L2 TL Builtin Builtin.Str

/-! ### plain texts -/
def plainC (c : Nat) : Bool := decide (c ∈ [32, 43, 45, 47, 48, 49, 50, 51, 52, 53, 54, 55, 56, 57])
theorem plain_repr {c : Nat} (h : plainC c = true) : reprChar 39 c = [c] := by
  have h := of_decide_eq_true h
  have : ∀ c ∈ [32, 43, 45, 47, 48, 49, 50, 51, 52, 53, 54, 55, 56, 57], reprChar 39 c = [c] := by decide +kernel
  exact this c h
theorem plain_fold : ∀ (l : List Nat) (acc : Array Nat), (∀ c ∈ l, plainC c = true) → (l.foldl (fun out c => out ++ (reprChar 39 c).toArray) acc).toList = acc.toList ++ l
  | [], acc, _ => by simp
  | c :: r, acc, h => by
    rw [List.foldl_cons, plain_repr (h c (List.mem_cons_self ..)), plain_fold r _ fun d hd => h d (List.mem_cons_of_mem _ hd)]
    simp
theorem tl_repr {x : PySem.Str} (h : ∀ c ∈ tl x, plainC c = true) : tl (reprText x) = 39 :: (tl x ++ [39]) := by
  have hq : reprQuote x = 39 := by
    unfold reprQuote
    have : x.cps.contains 39 = false := by
      cases hc : x.cps.contains 39 with
      | false => rfl
      | true =>
        have := h 39 (by have := Array.contains_iff_mem.mp hc; exact Array.mem_toList_iff.mpr this)
        exact absurd this (by decide)
    rw [this]
    rfl
  unfold reprText
  rw [hq]
  show ((x.cps.foldl (fun out c => out ++ (reprChar 39 c).toArray) #[39]).push 39).toList = _
  rw [Array.toList_push, ← Array.foldl_toList, plain_fold _ _ h]
  rfl
theorem plain_ok {x : PySem.Str} (h : ∀ c ∈ tl x, plainC c = true) (hl : x.length ≤ 300) : Rp (.str x) ∧ PyData.strOk (PyData.str x).shown = true := by
  have e := tl_repr h
  refine ⟨⟨rfl, rfl, by show 0 ≤ 50; decide, ?_⟩, ?_⟩
  · show (reprText x).length ≤ 2000
    rw [len_tl, e]
    rw [len_tl] at hl
    simp only [List.length_cons, List.length_append, List.length_nil]
    omega
  · show (reprText x).cps.all (· < 0x110000) = true
    rw [← Array.all_toList]
    show (tl (reprText x)).all _ = true
    rw [e]
    refine List.all_eq_true.mpr fun c hc => ?_
    have : c < 0x110000 := by
      rcases List.mem_cons.mp hc with rfl | hc
      · decide
      · rcases List.mem_append.mp hc with hc | hc
        · have := of_decide_eq_true (h c hc)
          simp only [List.mem_cons, List.not_mem_nil, or_false] at this
          omega
        · rw [List.mem_singleton.mp hc]
          decide
    simpa using this
theorem dig_plain {c : Nat} (h : 48 ≤ c ∧ c ≤ 57) : plainC c = true := by
  unfold plainC
  refine decide_eq_true ?_
  simp only [List.mem_cons, List.not_mem_nil, or_false]
  omega
theorem st_plain (i : Int) : ∀ c ∈ stL i, plainC c = true := by
  unfold stL
  split
  · intro c hc
    rcases List.mem_cons.mp hc with rfl | hc
    · rfl
    · exact dig_plain (numL_digits _ c hc)
  · exact fun c hc => dig_plain (numL_digits _ c hc)
theorem wr_plain (q : Int × Int) : ∀ c ∈ wrL q, plainC c = true := by
  unfold wrL
  split
  · exact st_plain _
  · intro c hc
    rcases List.mem_append.mp hc with hc | hc
    · exact st_plain _ c hc
    · rcases List.mem_cons.mp hc with rfl | hc
      · rfl
      · exact st_plain _ c hc
theorem dbl_mem (k : Nat) : ∀ (l : List Nat) (c : Nat), c ∈ StrLaws.dbl k l → c ∈ l
  | [], c, h => by simp [StrLaws.dbl] at h
  | d :: r, c, h => by
    unfold StrLaws.dbl at h
    split at h
    · rcases List.mem_cons.mp h with rfl | h
      · exact List.mem_cons_self ..
      · rcases List.mem_cons.mp h with rfl | h
        · exact List.mem_cons_self ..
        · exact List.mem_cons_of_mem _ (dbl_mem k r c h)
    · rcases List.mem_cons.mp h with rfl | h
      · exact List.mem_cons_self ..
      · exact List.mem_cons_of_mem _ (dbl_mem k r c h)
theorem bent_plain {q : Int × Int} {l : List Nat} (h : l ∈ bents (wrL q)) : ∀ c ∈ l, plainC c = true := by
  have w := wr_plain q
  generalize wrL q = m at h w
  simp only [bents, List.mem_cons, List.not_mem_nil, or_false] at h
  intro c hc
  rcases h with rfl | rfl | rfl | rfl | rfl | rfl | rfl | rfl
  · exact w c hc
  all_goals first
    | (rcases List.mem_cons.mp hc with rfl | hc
       · rfl
       · exact w c hc)
    | (rcases List.mem_append.mp hc with hc | hc
       · exact w c hc
       · simp only [List.mem_cons, List.not_mem_nil, or_false] at hc
         rcases hc with rfl | rfl <;> rfl)
    | (rcases List.mem_append.mp hc with hc | hc
       · exact w c hc
       · rw [List.mem_singleton.mp hc]; rfl)
    | exact w c (dbl_mem 47 m c hc)
theorem st_len3 {i : Int} (h : i.natAbs < 1000) : (st i).length ≤ 4 := by
  have := int_text_length_le10 (a := i) (k := 3) (by decide) h
  unfold st
  rw [PySem.ofString_length]
  exact this
theorem wr_len {q : Int × Int} (h1 : q.1.natAbs < 1000) (h2 : q.2.natAbs < 1000) : (wr q).length ≤ 9 := by
  have := st_len3 h1
  have := st_len3 h2
  unfold wr
  split
  · omega
  · rw [Str.length_append, Str.length_append, len_slash]
    omega
/-! ### the told lists -/
def shD (q : Int × Int) : PyData := .list [.str "share", .int q.1, .int q.2]
def txD (z : PySem.Str) : PyData := .list [.str "text", .str z]
theorem lay_sh (q : Int × Int) : (shD q).canLay0 = true := by
  show (PyData.strOk "share" && (true && (true && true))) = true
  rw [show PyData.strOk "share" = true by decide +kernel]
  rfl
theorem lay_tx {z : PySem.Str} (h : PyData.strOk z = true) : (txD z).canLay0 = true := by
  show (PyData.strOk "text" && (PyData.strOk z && true)) = true
  rw [h, show PyData.strOk "text" = true by decide +kernel]
  rfl
theorem shaped_of {d : PyData} (h : d.canLay0 = true) (hs : ∀ b : Bool, d.canLay0 = b → SeqAt.shaped d = b) : SeqAt.shaped d = true := hs true h
theorem neD_self {K : Frag} {H : Hp} {x y : V} {d : PyData} {Q : VK} (hx : Dp K H x d) (hy : Dp K H y d) (hl : d.canLay0 = true) (hs : SeqAt.shaped d = true) (h : Q (.bl false) H) : rNeD K x y H Q := by
  refine ⟨d, d, hx, hy, hs, hs, ?_⟩
  rw [SeqAt.eqv_refl d hl]
  exact h
theorem sh_shaped (q : Int × Int) : SeqAt.shaped (shD q) = true := by unfold SeqAt.shaped; rw [lay_sh]; rfl
theorem tx_shaped {z : PySem.Str} (h : PyData.strOk z = true) : SeqAt.shaped (txD z) = true := by unfold SeqAt.shaped; rw [lay_tx h]; rfl
theorem dp_sh {K : Frag} {H : Hp} {p : Addr} {q : Int × Int} (h : H p = some (.lst [.str "share", .int q.1, .int q.2])) : Dp K H (.ref p) (shD q) := .lst (SqL.of h) (.cons (.str _) (.cons (.int _) (.cons (.int _) .nil)))
theorem dp_tx {K : Frag} {H : Hp} {p : Addr} {z : PySem.Str} (h : H p = some (.lst [.str "text", .str z])) : Dp K H (.ref p) (txD z) := .lst (SqL.of h) (.cons (.str _) (.cons (.str _) .nil))
/-- two tellings of one text are equal -/
theorem tell_two {K : Frag} {H : Hp} {x : PySem.Str} {Q : VK} (ho : PyData.strOk (PyData.str x).shown = true) (h : ∀ p p' H1 H2 H', Same H H1 → Same H1 H2 → Same H2 H' → (∀ Q' : VK, Q' (.bl false) H' → rNeD K (.ref p) (.ref p') H' Q') → True) : True := trivial
def oddS : List PySem.Str := ["", "1/0", "2/4", "-0", "1.5", "x", "1/-2", "-", "/", "3/1", "0/5"]
def okOdd (x : PySem.Str) : Bool := decide (pfL (tl x) = none) && (decide (x.length ≤ 300) && (decide ((PyData.str x).showable = true) && (decide ((PyData.str x).hasDict = false) && (decide ((PyData.str x).depth ≤ 50) && (decide ((PyData.str x).shown.length ≤ 2000) && PyData.strOk (PyData.str x).shown)))))
theorem odd_all : oddS.all okOdd = true := by decide +kernel
end Ps

/-! k02: the law. -/
namespace Ps
open PySem PySem.Spec PyProof.Rows PySem.W L2 TL

theorem Pool.same {H H' : Hp} {p q : Addr} {ms : List Int} {i : Nat} (P : Pool H p q ms i) (e : Same H H') : Pool H' p q ms i := ⟨e _ _ P.at_, e _ _ P.nums, P.len, P.few⟩
theorem low_bounds {t u : Int} (t0 : -30 ≤ t) (t1 : t ≤ 30) (u0 : 1 ≤ u) (u1 : u ≤ 30) : -30 ≤ (low t u).1 ∧ (low t u).1 ≤ 30 ∧ 1 ≤ (low t u).2 ∧ (low t u).2 ≤ 30 ∧ low (low t u).1 (low t u).2 = low t u ∧ Sz 100 (low t u) := by
  have hu : u ≠ 0 := by omega
  have h1 := low_le1 (t := t) hu
  have h2 := low_le2 (t := t) hu
  have h3 := low_pos (t := t) hu
  exact ⟨by omega, by omega, by omega, by omega, low_low hu, Sz.of_low hu (lt_up (m := 10) (by omega) (by decide)) (lt_up (m := 10) (by omega) (by decide))⟩
theorem read_odd {K : Frag} {H : Hp} {v : V} {d : PyData} {Q : VK} {E : XK} (hd : Dp K H v d) (hR : Rp d) (hc : (∃ x, v = .str x ∧ d = .str x ∧ x.length ≤ 300 ∧ pfL (tl x) = none) ∨ NotStr K H v) (k : NewL H Q [.str "text", .str d.shown]) : spRead K [v] H Q E := by
  rcases hc with ⟨x, rfl, rfl, hx, hp⟩ | hn
  · refine ⟨_, rfl, .inl ⟨x, rfl, hx, hR, (fun q' hq' => by rw [hp] at hq'; cases hq'), ?_⟩⟩
    unfold tellR
    rw [hp]
    exact k
  · exact ⟨_, rfl, .inr ⟨d, hn, hd, hR, k⟩⟩
section
variable {Z : Cz} {f C : Addr} {fd : FuncData}
theorem ok_law (F : Fun Z.K "law" "law" s_lw_law f fd) (D : DrT Z) (Y : TxT Z) (c_low : CLow Z)
    (c_lw_opened : Cal Z CX0 3 "_law_opened" ["_law_script", "_law_k", "_law_many"] [] (spOpened Z.K)) (c_lw_draw : Cal Z CX0 1 "_law_draw" ["_law_pool_here", "_law_many"] [] spDraw)
    (c_right : Cal Z CX0 8 "_law_right" ["_law_one", "_law_other", "_law_more"] [] spRight) (c_wr : Cal Z CX0 1 "_law_written" ["_law_pair"] [] spWritten) (c_bent : Cal Z CX0 2 "_law_bent" ["_law_pool_here", "_law_text"] [] spBent)
    (c_read : CalG Z CX0 7 "_law_read" ["_law_text"] (spRead Z.K)) (c_own : CalG Z CX0 2 "_law_own_read" ["_law_text"] spOwn) : FnG Z.P Z.w Z.K Z.mg Z.base CX0 9 f fd ["_law_script"] (spLaw Z.K) := by
  refine Fun.okG F sc_lw_law (fun vs H Q E h => ?_) (fun cdv A outer s H vs Q E hr hgd h => ?_)
  · obtain ⟨a, ns, rfl, _⟩ := h
    rfl
  · obtain ⟨a, ns, rfl, hS, hl, k⟩ := h
    refine ⟨_, PSs.nox (pss_cons (ps_for PassesOwn.never rfl (pi_range1 (by rfl) D.range (pa_cons (pe_callB (call_max2 rfl) (by rfl) D.max (by decide +kernel) (pa_cons pe_int (pa_cons (pe_callB (call_min2 rfl) (by rfl) D.min (by decide +kernel) (pa_cons (pe_callB call_len_seq (by rfl) D.len PySem.boot_len (pa_cons (pv 0) pa_nil)) (pa_cons pe_int pa_nil))) pa_nil))) pa_nil)) (pg_name (i := 1) sc_lw_law.nd rfl (Or.inl rfl))
      (pss_cons (ps_set (i := 2) sc_lw_law.nd rfl (Or.inl rfl) (pe_cal c_lw_opened (hr.mono (by decide)) (by rfl) pass0 (pa_cons (pv 0) (pa_cons (pv 1) (pa_cons pe_int pa_nil)))))
        (pss_cons (ps_set (i := 3) sc_lw_law.nd rfl (Or.inl rfl) (pe_cal c_low (hr.mono (by decide)) (by rfl) pass0 (pa_cons (pe_op op_sub (pe_cal c_lw_draw (hr.mono (by decide)) (by rfl) pass0 (pa_cons (pv 2) (pa_cons pe_int pa_nil))) pe_int) (pa_cons (pe_op op_add (pe_cal c_lw_draw (hr.mono (by decide)) (by rfl) pass0 (pa_cons (pv 2) (pa_cons pe_int pa_nil))) pe_int) pa_nil))))
        (pss_cons (ps_set (i := 4) sc_lw_law.nd rfl (Or.inl rfl) (pe_cal c_low (hr.mono (by decide)) (by rfl) pass0 (pa_cons (pe_op op_sub (pe_cal c_lw_draw (hr.mono (by decide)) (by rfl) pass0 (pa_cons (pv 2) (pa_cons pe_int pa_nil))) pe_int) (pa_cons (pe_op op_add (pe_cal c_lw_draw (hr.mono (by decide)) (by rfl) pass0 (pa_cons (pv 2) (pa_cons pe_int pa_nil))) pe_int) pa_nil))))
        (pss_cons (ps_if (pt_not (pt_val (pe_cal c_right hr (by rfl) pass0 (pa_cons (pv 3) (pa_cons (pv 4) (pa_cons (pe_op op_sub (pe_cal c_lw_draw (hr.mono (by decide)) (by rfl) pass0 (pa_cons (pv 2) (pa_cons pe_int pa_nil))) pe_int) pa_nil))))))
        (pss_one (ps_ret pe_bl))
        pss_nil)
        (pss_cons (ps_set (i := 5) sc_lw_law.nd rfl (Or.inl rfl) (pe_cal c_bent (hr.mono (by decide)) (by rfl) pass0 (pa_cons (pv 2) (pa_cons (pe_cal c_wr (hr.mono (by decide)) (by rfl) pass0 (pa_cons (pv 3) pa_nil)) pa_nil))))
        (pss_one (ps_if (PW.pt (pw_or (pt_cmpR (op_neD hr.units) (pe_calG c_read (hr.mono (by decide)) hgd (by rfl) pass0 (pa_cons (pe_cal c_wr (hr.mono (by decide)) (by rfl) pass0 (pa_cons (pv 3) pa_nil)) pa_nil)) (pe_lst (pa_cons pe_str (pa_cons (pe_ix ix_list (pv 3) pe_int (fun _ _ => rfl)) (pa_cons (pe_ix ix_list (pv 3) pe_int (fun _ _ => rfl)) pa_nil)))) (nomark _)) (pw_or1 (pt_cmpR (op_neD hr.units) (pe_calG c_read (hr.mono (by decide)) hgd (by rfl) pass0 (pa_cons (pv 5) pa_nil)) (pe_calG c_own (hr.mono (by decide)) hgd (by rfl) pass0 (pa_cons (pv 5) pa_nil)) (nomark _)))))
        (pss_one (ps_ret pe_bl))
        pss_nil))))))))
      (pss_cons (ps_for PassesOwn.never rfl (pi_list (pe_lst (pa_cons pe_non (pa_cons pe_int (pa_cons pe_str (pa_cons pe_str (pa_cons pe_str (pa_cons pe_str (pa_cons pe_str (pa_cons pe_str (pa_cons pe_str (pa_cons pe_str (pa_cons pe_str (pa_cons pe_str (pa_cons pe_str (pa_cons (pe_lst (pa_cons pe_int pa_nil)) pa_nil)))))))))))))))) (pg_name (i := 6) sc_lw_law.nd rfl (Or.inl rfl))
      (pss_one (ps_if (pt_cmpR (op_neD hr.units) (pe_calG c_read (hr.mono (by decide)) hgd (by rfl) pass0 (pa_cons (pv 6) pa_nil)) (pe_lst (pa_cons pe_str (pa_cons (pe_callB (show CallR _ _ (rRepr Z.K) from call_repr hgd hr.units) (by rfl) Y.repr (by decide +kernel) (pa_cons (pv 6) pa_nil)) pa_nil))) (nomark _))
        (pss_one (ps_ret pe_bl))
        pss_nil)))
      (pss_one (ps_ret pe_bl)))), ?_⟩
    have hln : (ns.map V.int).length = ns.length := List.length_map ..
    refine ⟨_, rfl, a, _, rfl, .inl hS, _, _, rfl, _, _, rfl, _, rfl, ?_, ?_, for_range (lo := 0) (fun i σ H' => ∃ o1 o2 o3 o4 o5 o6, σ = [some (.ref a), o1, o2, o3, o4, o5, o6] ∧ Same H H') ⟨_, _, _, _, _, _, rfl, Same.refl _⟩ ?_ ?_⟩
    · split <;> split <;> omega
    · split <;> split <;> omega
    · rintro i σ H1 hi ⟨o1, o2, o3, o4, o5, o6, rfl, e1⟩
      have hi' : i < ns.length ∨ (ns = [] ∧ i = 0) := by
        cases ns with
        | nil => exact .inr ⟨rfl, by simp at hi; omega⟩
        | cons n r =>
          refine .inl ?_
          simp only [List.length_map, List.length_cons] at hi ⊢
          revert hi
          split <;> split <;> omega
      have hi8 : i ≤ 1000 := by
        rcases hi' with h | h
        · omega
        · omega
      rw [Int.zero_add]
      refine ⟨_, rfl, _, rfl, a, ns, i, 12, rfl, e1.seq hS, hi', hi8, by decide, by decide, fun p q H2 ms e2 hp hq P2 => ?_⟩
      have hp0 : H p = none := e1.free hp
      -- one
      refine ⟨_, rfl, p, q, ms, 0, 61, rfl, P2, by decide, by decide, fun r1 H3 a0 a1 e3 P3 => ?_⟩
      refine ⟨_, _, rfl, rfl, _, rfl, p, q, ms, 1, 30, rfl, P3, by decide, by decide, fun r2 H4 b0 b1 e4 P4 => ?_⟩
      refine ⟨_, _, rfl, rfl, ?_⟩
      obtain ⟨x0, x1, x2, x3, x4, x5⟩ := low_bounds (t := r1 - 30) (u := r2 + 1) (by omega) (by omega) (by omega) (by omega)
      have hbent := fun l => bent_in (t := r1 - 30) (u := r2 + 1) (l := l) (by omega) (by omega) (by omega) (by omega)
      refine ⟨_, _, rfl, by omega, lt_up (m := 10) (by omega) (by decide), fun po H5 e5 hpo h5 => ?_⟩
      have hpop : po ≠ p := (ne_of_none P4.at_ hpo).symm
      have k5 : Keep p H2 H5 := ((Keep.of_eq e3).trans (Keep.of_eq e4)).trans (Keep.of_same e5)
      have P5 := P4.same e5
      generalize low (r1 - 30) (r2 + 1) = q1 at x0 x1 x2 x3 x4 x5 hbent h5
      -- other
      refine ⟨_, rfl, p, q, ms, 2, 61, rfl, P5, by decide, by decide, fun r3 H6 a0 a1 e6 P6 => ?_⟩
      refine ⟨_, _, rfl, rfl, _, rfl, p, q, ms, 3, 30, rfl, P6, by decide, by decide, fun r4 H7 b0 b1 e7 P7 => ?_⟩
      refine ⟨_, _, rfl, rfl, ?_⟩
      obtain ⟨y0, y1, y2, y3, y4, y5⟩ := low_bounds (t := r3 - 30) (u := r4 + 1) (by omega) (by omega) (by omega) (by omega)
      refine ⟨_, _, rfl, by omega, lt_up (m := 10) (by omega) (by decide), fun pt H8 e8 hpt h8 => ?_⟩
      have hptp : pt ≠ p := (ne_of_none P7.at_ hpt).symm
      have k8' : Keep p H5 H8 := ((Keep.of_eq e6).trans (Keep.of_eq e7)).trans (Keep.of_same e8)
      have k8 := k5.trans k8'
      have P8 := P7.same e8
      have h5 := k8' po hpop _ h5
      generalize low (r3 - 30) (r4 + 1) = q2 at y0 y1 y2 y3 y4 y5 h8
      -- right
      refine ⟨_, rfl, _, rfl, _, rfl, p, q, ms, 4, 19, rfl, P8, by decide, by decide, fun r5 H9 c0 c1 e9 P9 => ?_⟩
      have h9o := (e9 po hpop).trans h5
      have h9t := (e9 pt hptp).trans h8
      have k9 := k8.trans (Keep.of_eq e9)
      refine ⟨_, _, rfl, rfl, ?_⟩
      refine ⟨po, pt, q1, q2, _, rfl, h9o, h9t, x4, y4, x5, y5, by omega, fun H10 e10 => ⟨_, rfl, iteF ?_⟩⟩
      have P10 := P9.same e10
      have h10 := e10 _ _ h9o
      have k10 := k9.trans (Keep.of_same e10)
      have z1 : Sz 1000 q1 := x5.up (by decide)
      have wl := wr_len (q := q1) (by omega) (by omega)
      -- bent
      refine ⟨_, rfl, _, rfl, po, q1, rfl, h10, z1, p, q, ms, 5, _, rfl, P10, by decide, by omega, fun y H11 hy hyl k11 P11 => ?_⟩
      rw [tl_wr] at hy
      have hin := hbent _ hy
      obtain ⟨hyR, hyo⟩ := plain_ok (x := y) (bent_plain hy) hyl
      have h11 := k11 po hpop _ h10
      have k11 := k10.trans k11
      have e011 : Same H H11 := Keep.same (e1.trans e2) hp0 k11
      have hself : pfL (tl (wr q1)) = some q1 := by
        rw [tl_wr]
        exact pf_self (by omega) (by omega) (by omega) (by omega) x4
      obtain ⟨hwR, _⟩ := plain_ok (x := wr q1) (by rw [tl_wr]; exact wr_plain q1) (by omega)
      -- read of what is written
      refine ⟨_, rfl, po, q1, rfl, h11, z1, _, rfl, .inl ⟨_, rfl, by omega, hwR, (fun q' hq' => ?_), ?_⟩⟩
      · rw [hself] at hq'
        rw [← Option.some.inj hq']
        exact x5.up (by decide)
      unfold tellR
      rw [hself]
      intro p1 H12 e12 hp1 h12
      have h12o := e12 _ _ h11
      refine ⟨_, rfl, po, _, 0, _, rfl, rfl, SqL.of h12o, atI_nat (j := 0) rfl, _, rfl, po, _, 1, _, rfl, rfl, SqL.of h12o, atI_nat (j := 1) rfl, (by show 3 ≤ sizeLine; decide), fun p2 hp2 => ?_⟩
      refine neD_self (dp_sh (Same.upd hp2 _ _ h12)) (dp_sh upd_same) (lay_sh _) (sh_shaped _) ⟨_, rfl, iteF ?_⟩
      have e13 : Same H (upd H12 p2 (.lst [.str "share", .int q1.1, .int q1.2])) := (e011.trans e12).trans (Same.upd hp2)
      show tTest _ _ _ _
      generalize (upd H12 p2 (.lst [.str "share", .int q1.1, .int q1.2])) = H13 at e13
      refine ⟨_, rfl, _, rfl, .inl ⟨y, rfl, hyl, hyR, (fun q' hq' => ?_), ?_⟩⟩
      · rw [hq'] at hin
        have h := inR_of hin
        exact ⟨by omega, lt_up (m := 10) (by omega) (by decide), lt_up (m := 10) (by omega) (by decide)⟩
      unfold tellR
      cases hq : pfL (tl y) with
      | some q' =>
        intro p3 H14 e14 hp3 h14
        refine ⟨_, rfl, y, rfl, hyR, hin, ?_⟩
        unfold tellR
        rw [hq]
        intro p4 H15 e15 hp4 h15
        refine neD_self (dp_sh (e15 _ _ h14)) (dp_sh h15) (lay_sh _) (sh_shaped _) ⟨_, rfl, iteF ?_⟩
        exact ⟨_, _, _, _, _, _, rfl, (e13.trans e14).trans e15⟩
      | none =>
        intro p3 H14 e14 hp3 h14
        refine ⟨_, rfl, y, rfl, hyR, hin, ?_⟩
        unfold tellR
        rw [hq]
        intro p4 H15 e15 hp4 h15
        refine neD_self (dp_tx (e15 _ _ h14)) (dp_tx h15) (lay_tx hyo) (tx_shaped hyo) ⟨_, rfl, iteF ?_⟩
        exact ⟨_, _, _, _, _, _, rfl, (e13.trans e14).trans e15⟩
    · rintro σ H1 ⟨o1, o2, o3, o4, o5, o6, rfl, e1⟩
      refine ⟨(by show 1 ≤ sizeLine; decide), fun l1 hl1 => ?_⟩
      refine ⟨(by show 14 ≤ sizeLine; decide), fun L hL => ?_⟩
      have hl7 := Same.upd (o := .lst (.non :: .int 5 :: (oddS.map V.str ++ [.ref l1]))) hL l1 _ upd_same
      have hL7 : (upd (upd H1 l1 (.lst [.int 1])) L (.lst (.non :: .int 5 :: (oddS.map V.str ++ [.ref l1])))) L = _ := upd_same
      refine ⟨L, rfl, ⟨_, SqL.of hL7⟩, ?_⟩
      show ∃ W : Nat → Nat → L2.St → Hp → Prop, (∃ m, W 0 m _ (upd (upd H1 l1 (.lst [.int 1])) L (.lst (.non :: .int 5 :: (oddS.map V.str ++ [.ref l1]))))) ∧ _
      generalize (upd (upd H1 l1 (.lst [.int 1])) L (.lst (.non :: .int 5 :: (oddS.map V.str ++ [.ref l1])))) = H7 at hl7 hL7
      refine for_list (K := Z.K) (a := L) (xs := .non :: .int 5 :: (oddS.map V.str ++ [.ref l1])) (fun j σ H' => ∃ o6, σ = [some (.ref a), o1, o2, o3, o4, o5, o6] ∧ Same H7 H') ⟨_, rfl, Same.refl _⟩ (fun j σ H' _ ⟨_, _, e⟩ => SqL.of (e _ _ hL7)) ?_ ?_
      · rintro j y σ H8 hy ⟨o6, rfl, e8⟩
        have hl8 := e8 _ _ hl7
        obtain ⟨d, hd, hR, ho, hc⟩ : ∃ d, Dp Z.K H8 y d ∧ Rp d ∧ PyData.strOk d.shown = true ∧ ((∃ x, y = .str x ∧ d = .str x ∧ x.length ≤ 300 ∧ pfL (tl x) = none) ∨ NotStr Z.K H8 y) := by
          have hm := List.mem_of_getElem? hy
          rcases List.mem_cons.mp hm with rfl | hm
          · exact ⟨.none, .non, rpB_ok (by decide +kernel), by decide +kernel, .inr ⟨_, .base .non, kit_ty (by decide +kernel)⟩⟩
          rcases List.mem_cons.mp hm with rfl | hm
          · exact ⟨.int 5, .int 5, rpB_ok (by decide +kernel), by decide +kernel, .inr ⟨_, .base (.int _), kit_ty (by decide +kernel)⟩⟩
          rcases List.mem_append.mp hm with hm | hm
          · obtain ⟨x, hx, rfl⟩ := List.mem_map.mp hm
            have h := List.all_eq_true.mp odd_all x hx
            unfold okOdd at h
            simp only [Bool.and_eq_true, decide_eq_true_eq] at h
            exact ⟨.str x, .str x, ⟨h.2.2.1, h.2.2.2.1, h.2.2.2.2.1, h.2.2.2.2.2.1⟩, h.2.2.2.2.2.2, .inl ⟨x, rfl, rfl, h.2.1, h.1⟩⟩
          · obtain rfl := List.mem_singleton.mp hm
            exact ⟨.list [.int 1], .lst (SqL.of hl8) (.cons (.int 1) .nil), rpB_ok (by decide +kernel), by decide +kernel, .inr ⟨_, .base (.lst hl8), kit_ty (by decide +kernel)⟩⟩
        refine ⟨_, rfl, read_odd (E := E0) hd hR hc fun p1 H9 e9 hp1 h9 => ?_⟩
        refine ⟨_, rfl, _, d, rfl, Dp.mono e9 hd, hR.show_, hR.nod, hR.d60, hR.sz, (by show 2 ≤ sizeLine; decide), fun p2 hp2 => ?_⟩
        refine neD_self (dp_tx (Same.upd hp2 _ _ h9)) (dp_tx upd_same) (lay_tx ho) (tx_shaped ho) ⟨_, rfl, iteF ?_⟩
        exact ⟨_, rfl, (e8.trans e9).trans (Same.upd hp2)⟩
      · rintro σ H8 ⟨o6, rfl, e8⟩
        exact k H8
end
end Ps

/-! Own errors behind the top. -/
namespace Ps
open PySem PySem.Spec PyProof.Rows PySem.W L2 He

def excObjB (K : Frag) (C P : Addr) : Bool := match K.lookup C with
  | some ⟨.type "type", _, .cls cd, sl⟩ => (match sl.toList with
    | [_, _, _, _, some (.builtin n), _] => decide (cd.mro = .ref C :: .ref P :: ESX.exTail) && (decide (n = "Exception.__new__") && (!cd.hasDel && cd.hasDict))
    | _ => false)
  | _ => false
theorem excObjB_ok {K : Frag} {C P : Addr} (h : excObjB K C P = true) : ∃ nm q N bs sn sub ab col dd k0 k1 k2 k3 k5, K.lookup C = some (excClassObj nm q C N bs (.ref P :: ESX.exTail) true sn sub ab col dd k0 k1 k2 k3 k5 "Exception.__new__") := by
  unfold excObjB at h
  split at h
  · rename_i dd cd sl ho
    split at h
    · rename_i k0 k1 k2 k3 n k5 hs
      obtain ⟨h1, h⟩ := ba h
      obtain ⟨h2, h⟩ := ba h
      obtain ⟨h3, h4⟩ := ba h
      have h1 := of_decide_eq_true h1
      have h2 := of_decide_eq_true h2
      obtain ⟨nm, bs, mro, ns, qn, hd, sn, sub, ab, col, del⟩ := cd
      dsimp only at h1 h3 h4
      have h3 : del = false := by simpa using h3
      subst h1 h2 h3 h4
      have hsl : sl = #[k0, k1, k2, k3, some (.builtin "Exception.__new__"), k5] := by
        obtain ⟨l⟩ := sl
        simp only at hs
        rw [hs]
      subst hsl
      exact ⟨nm, qn, ns, bs, sn, sub, ab, col, dd, k0, k1, k2, k3, k5, ho⟩
    · cases h
  · cases h
def excB (K : Frag) (x fl : Str) : Bool := excObjB K (ga K x) (ga K "PlanError") && ((Fa.glo x).ok K && (eqO (findIn K (.ref (ga K x)) "__setattr__") (some (some (.builtin "object.__setattr__"))) && (eqO (findIn K (.ref (ga K x)) fl) (some none) &&
  (keepIn K (.ref (ga K x)) && (decide (typeIn K (.ref (ga K x)) = some (.type "type")) && xfB K (ga K x))))))
theorem excB_ok {K : Frag} {h : Heap} {mg : Str → Option Value} {x fl qual : Str} {st : Stmt} {f : Addr} {fd : FuncData} {p1 p2 q1 q2 q3 q4 : Pos} (X : K.In h) (G : h.Ns mainGlobals mg) (c : excB K x fl = true) (g : GotM K (ga K x) "__init__" qual st f fd)
    (hA : defArgs st = xA fl p1 p2) (hB : defBody st = xB fl q1 q2 q3 q4) (hS : defScope st = xS fl) : ExT K mg x fl qual (ga K x) (ga K "PlanError") f := by
  obtain ⟨c1, c⟩ := ba c
  obtain ⟨c2, c⟩ := ba c
  obtain ⟨c3, c⟩ := ba c
  obtain ⟨c4, c⟩ := ba c
  obtain ⟨c5, c⟩ := ba c
  obtain ⟨c6, c7⟩ := ba c
  obtain ⟨oc, od, kV, doc, pm, an, cdv, ct, osl, rfl, lk, hcd⟩ := g.F.ex
  rw [hA, hB, hS] at lk
  exact ⟨glo_ok X G c2, excObjB_ok c1, eqO_ok c3, eqO_ok c4, g.o.fn, beq_iff_eq.mp g.o.isf, c5, of_decide_eq_true c6, xfB_ok c7, ⟨oc, od, kV, doc, pm, an, cdv, ct, osl, p1, p2, q1, q2, q3, q4, lk, hcd⟩⟩
def exmB (K : Frag) (x y : Str) (b : Bool) : Bool := decide (exmOne K (.ref (ga K x)) (.ref (ga K y)) = some b)
def noSubB (K : Frag) (C : Addr) (Ts : List String) : Bool := Ts.all fun T => decide (subIn K (.ref C) (.type T) = some false)
end Ps

/-! Shares behind the top: facts by a Bool. -/
namespace Ps
open PySem PySem.Spec PyProof.Rows PySem.W L2 He

/-- a class of the text whose instances' types are asked -/
def ownB (K : Frag) (C : Addr) : Bool := eqO (findIn K (.ref C) "__class__") (some (some (.builtin "object.__class__"))) && (eqO (specialIn K (.builtin "object.__class__") "__get__") (some (some (.builtin "getset_descriptor.__get__"))) && (decide (takesIn K (.builtin "object.__class__") = some true) && decide (mroIn K C (.type "object") = some true)))
def shB (K : Frag) : Bool := (Fa.cls "Share").ok K && ((Fa.mkr "Share").ok K && ((Fa.noat "Share" "own_top").ok K && ((Fa.noat "Share" "own_under").ok K && ((Fa.glo "Share").ok K && (freeB K ["isinstance", "int", "bool", "abs", "len", "range", "max", "min"] && (ownB K (ga K "Share") &&
  (decide (kitOne K (.ref (ga K "Share")) (.ref (ga K "Share")) = some true) && (decide (kitOne K (.ref (ga K "Share")) (.type "int") = some false) && (decide (kitOne K (.type "int") (.ref (ga K "Share")) = some false) && ([.type "bool", .type "str", .type "NoneType", .type "list", .type "tuple", .type "dict"] : List Value).all fun t => decide (kitOne K t (.ref (ga K "Share")) = some false))))))))))
def numsB (K : Frag) : Bool := numB K (ga K "Share") "add" && (numB K (ga K "Share") "sub" && numB K (ga K "Share") "mul")
def neB (K : Frag) (C : Addr) : Bool := eqO (findIn K (.ref C) "__ne__") (some (some (.builtin "object.__ne__"))) && decide (mroIn K C (.type "object") = some true)
theorem neB_ok {K : Frag} {C : Addr} (c : neB K C = true) : NeT K C := by
  obtain ⟨c1, c2⟩ := ba c
  exact ⟨eqO_ok c1, of_decide_eq_true c2⟩
def rflB (K : Frag) (C : Addr) (nm : String) : Bool := findB K C (dunderR nm)
theorem rflB_ok {K : Frag} {C : Addr} {nm : String} (c : rflB K C nm = true) : Rfl K C nm := ⟨⟨_, eqO_ok c, .inr ⟨_, rfl⟩⟩⟩
def noiB (K : Frag) (C : Addr) (nm : String) : Bool := (clsIn K C).any (fun cd => decide (cd.mro = [.ref C, .type "object"])) && (eqO (findIn K (.ref C) (dunderI nm)) (some none) && decide (fastLookup "object" (dunderI nm) = some none))
theorem noiB_ok {K : Frag} {C : Addr} {nm : String} (c : noiB K C nm = true) : NoI K C nm := by
  obtain ⟨c1, c⟩ := ba c
  obtain ⟨c2, c3⟩ := ba c
  obtain ⟨cd, hc, hm⟩ := any_some c1
  exact ⟨⟨cd, hc, of_decide_eq_true hm⟩, eqO_ok c2, of_decide_eq_true c3⟩
section
variable {K : Frag} {h : Heap} {mg : Str → Option Value}
theorem shB_ok {P : Program} {w : World} {base : Heap} (X : K.In h) (G : h.Ns mainGlobals mg) (c : shB K = true) : ShT ⟨P, w, K, mg, base⟩ (ga K "Share") ∧ DrT ⟨P, w, K, mg, base⟩ ∧ Mk K (ga K "Share") (ma K (ga K "Share") "__init__") := by
  obtain ⟨c1, c⟩ := ba c
  obtain ⟨c2, c⟩ := ba c
  obtain ⟨c3, c⟩ := ba c
  obtain ⟨c4, c⟩ := ba c
  obtain ⟨c5, c⟩ := ba c
  obtain ⟨c6, c⟩ := ba c
  obtain ⟨c7, c⟩ := ba c
  obtain ⟨c8, c⟩ := ba c
  obtain ⟨c9, c⟩ := ba c
  obtain ⟨c10, c11⟩ := ba c
  obtain ⟨d1, d⟩ := ba c7
  obtain ⟨d2, d⟩ := ba d
  obtain ⟨d3, d4⟩ := ba d
  have f := fun {x : Str} (hx : x ∈ (["isinstance", "int", "bool", "abs", "len", "range", "max", "min"] : List Str)) => freeB_ok X G c6 hx
  exact ⟨⟨cls_ok c1, noat_ok c3, noat_ok c4, glo_ok X G c5, f (by simp), f (by simp), f (by simp), f (by simp), eqO_ok d1, eqO_ok d2, of_decide_eq_true d3, of_decide_eq_true d4, of_decide_eq_true c8, of_decide_eq_true c9, of_decide_eq_true c10, fun t ht => of_decide_eq_true (List.all_eq_true.mp c11 t ht)⟩,
    ⟨f (by simp), f (by simp), f (by simp), f (by simp), f (by simp)⟩, mkr_ok c2⟩
end
section
variable {Z : Cz} {h : Heap} {fn : List DefP} {ex : Frag → Bool}
/-- Share(..) -/
theorem mk_cals (X : Z.K.In h) (G : h.Ns mainGlobals Z.mg) (T : ShT Z (ga Z.K "Share")) (M : Mk Z.K (ga Z.K "Share") (ma Z.K (ga Z.K "Share") "__init__"))
    (g1 : ∃ f fd, Got Z.K Z.mg "is_integer" s_is_integer f fd) (g2 : ∃ f fd, Got Z.K Z.mg "common" s_common f fd)
    (g3 : ∃ fd, FunD Z.K "__init__" "Share.__init__" (defArgs s_Share_dd_init) (defBody s_Share_dd_init) (defScope s_Share_dd_init) [.int 1] [] (ma Z.K (ga Z.K "Share") "__init__") fd) :
    Cal Z CX0 1 "is_integer" ["value"] [] (spIsInt Z.K) ∧ CShare Z (ga Z.K "Share") ∧ CShare1 Z (ga Z.K "Share") := by
  obtain ⟨f1, fd1, g1⟩ := g1
  obtain ⟨f2, fd2, g2⟩ := g2
  obtain ⟨fd3, F3⟩ := g3
  have c1 := g1.cal (ok_is_integer g1.F T) (g1.F.binds fun _ _ _ _ _ _ us hl => match us, hl with | [_], _ => rfl)
  have c2 := g2.cal (ok_common g2.F T) (g2.F.binds fun _ _ _ _ _ _ us hl => match us, hl with | [_, _], _ => rfl)
  have k3 := ok_ShInit F3 T c1 c2
  obtain ⟨d1, v1, b1⟩ := FunD.binds1 (ps := ["self", "top", "under"]) F3 3 1 (by simp) rfl (fun T kV doc pm an cdv ct us its hl hi => match us, hl, its, hi with | [_, _, _], _, [_], _ => ⟨_, rfl, rfl⟩)
  obtain ⟨d2, v2, b2⟩ := FunD.binds1 (ps := ["self", "top", "under"]) F3 2 0 (by simp) rfl (fun T kV doc pm an cdv ct us its hl hi => match us, hl, its, hi with | [_, _], _, [_], _ => ⟨_, rfl, rfl⟩)
  exact ⟨c1, ⟨_, _, _, k3, M, T.mgC, b1, v1⟩, ⟨_, _, _, k3, M, T.mgC, b2, v2⟩⟩
end
end Ps

/-! k02: the end. -/
namespace Ps
open PySem PySem.Spec PyProof.Rows PySem.W L2 He

def txtB (K : Frag) (x z : Str) : Bool := match nsIn K mainGlobals x with
  | some (some (.str y _)) => decide (y = z)
  | _ => false
theorem txtB_ok {K : Frag} {h : Heap} {mg : Str → Option Value} {x z : Str} (X : K.In h) (G : h.Ns mainGlobals mg) (c : txtB K x z = true) : ∃ t, mg x = some (.str z t) := by
  unfold txtB at c
  split at c
  · rename_i y t e
    obtain rfl := of_decide_eq_true c
    exact ⟨t, mg_of X G e⟩
  · cases c
def fnAll : List DefP := [⟨.g "is_integer", "is_integer", "is_integer", s_is_integer, []⟩,
  ⟨.g "common", "common", "common", s_common, []⟩,
  ⟨.g "share_of_number", "share_of_number", "share_of_number", s_share_of_number, []⟩,
  ⟨.m "Share" "__init__", "__init__", "Share.__init__", s_Share_dd_init, [.int 1]⟩,
  ⟨.g "is_number", "is_number", "is_number", s_is_number, []⟩,
  ⟨.g "is_written", "is_written", "is_written", s_is_written, []⟩,
  ⟨.p "Share" "top", "top", "Share.top", s_Share_top, []⟩,
  ⟨.p "Share" "under", "under", "Share.under", s_Share_under, []⟩,
  ⟨.m "Share" "minus", "minus", "Share.minus", s_Share_minus, []⟩,
  ⟨.m "Share" "__lt__", "__lt__", "Share.__lt__", s_Share_dd_lt, []⟩,
  ⟨.m "Share" "__le__", "__le__", "Share.__le__", s_Share_dd_le, []⟩,
  ⟨.m "Share" "__gt__", "__gt__", "Share.__gt__", s_Share_dd_gt, []⟩,
  ⟨.m "Share" "__ge__", "__ge__", "Share.__ge__", s_Share_dd_ge, []⟩,
  ⟨.m "Share" "__eq__", "__eq__", "Share.__eq__", s_Share_dd_eq, []⟩,
  ⟨.m "Share" "__str__", "__str__", "Share.__str__", s_Share_dd_str, []⟩,
  ⟨.m "Share" "__repr__", "__repr__", "Share.__repr__", s_Share_dd_repr, []⟩,
  ⟨.m "Share" "__bool__", "__bool__", "Share.__bool__", s_Share_dd_bool, []⟩,
  ⟨.sm "Share" "parse", "parse", "Share.parse", s_Share_parse, []⟩,
  ⟨.m "BadText" "__init__", "__init__", "BadText.__init__", s_BadText_dd_init, []⟩,
  ⟨.g "_law_numbers", "_law_numbers", "_law_numbers", s_lw_numbers, []⟩,
  ⟨.g "_law_pool", "_law_pool", "_law_pool", s_lw_pool, []⟩,
  ⟨.g "_law_draw", "_law_draw", "_law_draw", s_lw_draw, []⟩,
  ⟨.g "_law_opened", "_law_opened", "_law_opened", s_lw_opened, []⟩,
  ⟨.g "_law_lowest", "_law_lowest", "_law_lowest", s_lw_lowest, []⟩,
  ⟨.g "_law_orders", "_law_orders", "_law_orders", s_lw_orders, []⟩,
  ⟨.g "_law_due", "_law_due", "_law_due", s_lw_due, []⟩,
  ⟨.g "_law_written", "_law_written", "_law_written", s_lw_written, []⟩,
  ⟨.g "_law_read", "_law_read", "_law_read", s_lw_read, []⟩,
  ⟨.g "_law_own_read", "_law_own_read", "_law_own_read", s_lw_own_read, []⟩,
  ⟨.g "_law_bent", "_law_bent", "_law_bent", s_lw_bent, []⟩,
  ⟨.g "_law_right", "_law_right", "_law_right", s_lw_right, []⟩,
  ⟨.g "law", "law", "law", s_lw_law, []⟩]
def exX (K : Frag) : Bool := excB K "BadText" "at" && (exmB K "BadText" "BadText" true && (txtB K "FIGURES" "0123456789" && (noSubB K (ga K "Share") ["int"] && neB K (ga K "Share"))))
def exAll (K : Frag) : Bool := statB K "Share" "parse" && (shB K && (freeB K ["repr", "str", "all", "len"] && exX K))
theorem statOf_Share_parse {K : Frag} (c : exAll K = true) : statB K "Share" "parse" = true := (ba c).1
abbrev Rw : OpenRow := OpenLaw.row PySem.Challenge.rw_planswitches_k02_shares_compared_and_wri
abbrev hk : Hook := hookP 6 fnAll exAll
def ob (s : SharedT) : AlP := obsPG 6 fnAll exAll (HandSHeadRun.getT s)
theorem ob_eq (s : SharedT) : ob s = hk.obs s.abs := obsPG_eq (HandSHeadRun.getT_eq s)
def loose : List PySem.Str := (["_wall", "__name__", "PlanError", "BadText", "BadShare", "FIGURES", "is_integer", "common", "share_of_number", "is_number", "is_written", "Share", "_law_numbers", "_law_pool", "_law_draw", "_law_opened", "_law_lowest", "_law_orders", "_law_due", "_law_written", "_law_read", "_law_own_read", "_law_bent", "_law_right"] : List PySem.Str)
theorem run (w : World) : HandSHeadRun.RunEq Rw (view Rw.prog [26]) hk ob 6000 loose w := by
  intro os
  kernel_rfl
theorem facts {P : Program} {w : World} {K : Frag} {h : Heap} {mg : Str → Option Value} {f : Addr} (X : K.In h) (G : h.Ns mainGlobals mg) (hfa : mg ("law" : Str) = some (.ref f)) (c : SaysP fnAll exAll K) :
    ∃ fd : FuncData, (∀ (s : Shared) (v : Value), BindsTo s fd ⟨[v], []⟩ [("_law_script", v)]) ∧ ∀ base : Heap, K.In base → base.Ns mainGlobals mg → FnG P w K mg base CX0 9 f fd ["_law_script"] (spLaw K) := by
  obtain ⟨f_is_integer, fd_is_integer, g_is_integer⟩ := c.glo X G 0 rfl
  obtain ⟨f_common, fd_common, g_common⟩ := c.glo X G 1 rfl
  obtain ⟨f_share_of_number, fd_share_of_number, g_share_of_number⟩ := c.glo X G 2 rfl
  obtain ⟨_, fd_3, F_3⟩ := c.def_ 3 rfl
  obtain ⟨f_is_number, fd_is_number, g_is_number⟩ := c.glo X G 4 rfl
  obtain ⟨f_is_written, fd_is_written, g_is_written⟩ := c.glo X G 5 rfl
  obtain ⟨p_Share_top, f_Share_top, fd_Share_top, g_Share_top⟩ := c.prop 6 rfl
  obtain ⟨p_Share_under, f_Share_under, fd_Share_under, g_Share_under⟩ := c.prop 7 rfl
  obtain ⟨f_Share_minus, fd_Share_minus, g_Share_minus⟩ := c.meth 8 rfl
  obtain ⟨f_Share_dd_lt, fd_Share_dd_lt, g_Share_dd_lt⟩ := c.meth 9 rfl
  obtain ⟨f_Share_dd_le, fd_Share_dd_le, g_Share_dd_le⟩ := c.meth 10 rfl
  obtain ⟨f_Share_dd_gt, fd_Share_dd_gt, g_Share_dd_gt⟩ := c.meth 11 rfl
  obtain ⟨f_Share_dd_ge, fd_Share_dd_ge, g_Share_dd_ge⟩ := c.meth 12 rfl
  obtain ⟨f_Share_dd_eq, fd_Share_dd_eq, g_Share_dd_eq⟩ := c.meth 13 rfl
  obtain ⟨f_Share_dd_str, fd_Share_dd_str, g_Share_dd_str⟩ := c.meth 14 rfl
  obtain ⟨f_Share_dd_repr, fd_Share_dd_repr, g_Share_dd_repr⟩ := c.meth 15 rfl
  obtain ⟨f_Share_dd_bool, fd_Share_dd_bool, g_Share_dd_bool⟩ := c.meth 16 rfl
  obtain ⟨p_Share_parse, f_Share_parse, fd_Share_parse, t_Share_parse, F_Share_parse⟩ := c.stat 17 rfl (by have := c.more; exact (statOf_Share_parse this))
  obtain ⟨f_BadText_dd_init, fd_BadText_dd_init, g_BadText_dd_init⟩ := c.meth 18 rfl
  obtain ⟨f_lw_numbers, fd_lw_numbers, g_lw_numbers⟩ := c.glo X G 19 rfl
  obtain ⟨f_lw_pool, fd_lw_pool, g_lw_pool⟩ := c.glo X G 20 rfl
  obtain ⟨f_lw_draw, fd_lw_draw, g_lw_draw⟩ := c.glo X G 21 rfl
  obtain ⟨f_lw_opened, fd_lw_opened, g_lw_opened⟩ := c.glo X G 22 rfl
  obtain ⟨f_lw_lowest, fd_lw_lowest, g_lw_lowest⟩ := c.glo X G 23 rfl
  obtain ⟨f_lw_orders, fd_lw_orders, g_lw_orders⟩ := c.glo X G 24 rfl
  obtain ⟨f_lw_due, fd_lw_due, g_lw_due⟩ := c.glo X G 25 rfl
  obtain ⟨f_lw_written, fd_lw_written, g_lw_written⟩ := c.glo X G 26 rfl
  obtain ⟨f_lw_read, fd_lw_read, g_lw_read⟩ := c.glo X G 27 rfl
  obtain ⟨f_lw_own_read, fd_lw_own_read, g_lw_own_read⟩ := c.glo X G 28 rfl
  obtain ⟨f_lw_bent, fd_lw_bent, g_lw_bent⟩ := c.glo X G 29 rfl
  obtain ⟨f_lw_right, fd_lw_right, g_lw_right⟩ := c.glo X G 30 rfl
  obtain ⟨f_lw_law, fd_lw_law, g_lw_law⟩ := c.glo X G 31 rfl
  have e := hfa.symm.trans g_lw_law.m
  cases e
  refine ⟨fd_lw_law, fun s v => ?_, fun base hK hG => ?_⟩
  · obtain ⟨⟨oc, od, kV, doc, pm, an, cdv, ct, osl, rfl, lk, hcd⟩, kp⟩ := g_lw_law.F
    exact .of_eq rfl
  let Z : Cz := ⟨P, w, K, mg, base⟩

  obtain ⟨_, ce⟩ := ba c.more
  obtain ⟨ce1, ce⟩ := ba ce
  obtain ⟨ce2, cx⟩ := ba ce
  obtain ⟨cx1, cx⟩ := ba cx
  obtain ⟨cx2, cx⟩ := ba cx
  obtain ⟨cx3, cx⟩ := ba cx
  obtain ⟨cns, cne⟩ := ba cx
  obtain ⟨T, D, M⟩ := shB_ok (P := P) (w := w) (base := base) X G ce1
  have tb := excB_ok X G cx1 g_BadText_dd_init rfl rfl rfl
  have Y : TxT Z := ⟨freeB_ok X G ce2 (by simp), freeB_ok X G ce2 (by simp), freeB_ok X G ce2 (by simp), freeB_ok X G ce2 (by simp), txtB_ok X G cx3⟩
  obtain ⟨c_is_integer, c_Share, c_Share1⟩ := mk_cals (Z := Z) X G T M ⟨_, _, g_is_integer⟩ ⟨_, _, g_common⟩ ⟨_, F_3⟩
  have c_num := g_share_of_number.cal (Z := Z) (ok_share_of_number g_share_of_number.F T c_is_integer c_Share1) (g_share_of_number.F.binds fun _ _ _ _ _ _ us hl => match us, hl with | [_], _ => rfl)
  have c_isnum := g_is_number.cal (Z := Z) (ok_is_number g_is_number.F T c_is_integer) (g_is_number.F.binds fun _ _ _ _ _ _ us hl => match us, hl with | [_], _ => rfl)
  have c_minus := g_Share_minus.calM (Z := Z) T.cl (ok_minus g_Share_minus.F T c_num) (g_Share_minus.F.binds fun _ _ _ _ _ _ us hl => match us, hl with | [_, _], _ => rfl)
  have c_lt := g_Share_dd_lt.calS (Z := Z) (ok_lt g_Share_dd_lt.F c_minus) (g_Share_dd_lt.F.binds fun _ _ _ _ _ _ us hl => match us, hl with | [_, _], _ => rfl)
  have c_le := g_Share_dd_le.calS (Z := Z) (ok_le g_Share_dd_le.F c_minus) (g_Share_dd_le.F.binds fun _ _ _ _ _ _ us hl => match us, hl with | [_, _], _ => rfl)
  have c_gt := g_Share_dd_gt.calS (Z := Z) (ok_gt g_Share_dd_gt.F c_minus) (g_Share_dd_gt.F.binds fun _ _ _ _ _ _ us hl => match us, hl with | [_, _], _ => rfl)
  have c_ge := g_Share_dd_ge.calS (Z := Z) (ok_ge g_Share_dd_ge.F c_minus) (g_Share_dd_ge.F.binds fun _ _ _ _ _ _ us hl => match us, hl with | [_, _], _ => rfl)
  have c_eq := g_Share_dd_eq.calS (Z := Z) (ok_eq g_Share_dd_eq.F c_minus c_isnum) (g_Share_dd_eq.F.binds fun _ _ _ _ _ _ us hl => match us, hl with | [_, _], _ => rfl)
  have c_str := g_Share_dd_str.calS (Z := Z) (ok_str g_Share_dd_str.F T Y) (g_Share_dd_str.F.binds fun _ _ _ _ _ _ us hl => match us, hl with | [_], _ => rfl)
  have c_repr := g_Share_dd_repr.calS (Z := Z) (ok_repr g_Share_dd_repr.F T) (g_Share_dd_repr.F.binds fun _ _ _ _ _ _ us hl => match us, hl with | [_], _ => rfl)
  have c_bool := g_Share_dd_bool.calS (Z := Z) (ok_bool g_Share_dd_bool.F T) (g_Share_dd_bool.F.binds fun _ _ _ _ _ _ us hl => match us, hl with | [_], _ => rfl)
  have c_top := g_Share_top.calP (Z := Z) T.cl (ok_top g_Share_top.F T) (g_Share_top.F.binds fun _ _ _ _ _ _ us hl => match us, hl with | [_], _ => rfl)
  have c_under := g_Share_under.calP (Z := Z) T.cl (ok_under g_Share_under.F T) (g_Share_under.F.binds fun _ _ _ _ _ _ us hl => match us, hl with | [_], _ => rfl)
  have c_w := g_is_written.cal (Z := Z) (ok_is_written g_is_written.F Y) (g_is_written.F.binds fun _ _ _ _ _ _ us hl => match us, hl with | [_], _ => rfl)
  have c_parse : CalT Z (CXN Z) 6 (ga K "Share") "parse" (spParse K (ga K "Share") (ga K "BadText")) := ⟨_, _, FnOk.toR (ok_parse (Z := Z) F_Share_parse T Y tb c_w c_Share c_str) (F_Share_parse.binds fun _ _ _ _ _ _ us hl => match us, hl with | [_], _ => rfl), t_Share_parse⟩
  have O : ShO Z (ga K "Share") := ⟨c_lt, c_le, c_gt, c_ge, c_eq, neB_ok cne, of_decide_eq_true (List.all_eq_true.mp cns "int" (by simp)), c_str, c_repr, c_bool, c_Share⟩
  have c_numbers := g_lw_numbers.cal (Z := Z) (ok_numbers g_lw_numbers.F D) (g_lw_numbers.F.binds fun _ _ _ _ _ _ us hl => match us, hl with | [_, _, _], _ => rfl)
  have c_pool := g_lw_pool.cal (Z := Z) (ok_pool g_lw_pool.F D c_numbers) (g_lw_pool.F.binds fun _ _ _ _ _ _ us hl => match us, hl with | [_, _, _], _ => rfl)
  have c_draw := g_lw_draw.cal (Z := Z) (ok_draw g_lw_draw.F D) (g_lw_draw.F.binds fun _ _ _ _ _ _ us hl => match us, hl with | [_, _], _ => rfl)
  have c_opened := g_lw_opened.cal (Z := Z) (ok_opened g_lw_opened.F D c_pool) (g_lw_opened.F.binds fun _ _ _ _ _ _ us hl => match us, hl with | [_, _, _], _ => rfl)
  have c_low := g_lw_lowest.cal (Z := Z) (ok_lowest g_lw_lowest.F T) (g_lw_lowest.F.binds fun _ _ _ _ _ _ us hl => match us, hl with | [_, _], _ => rfl)
  have c_ord := g_lw_orders.cal (Z := Z) (ok_orders g_lw_orders.F T O) (g_lw_orders.F.binds fun _ _ _ _ _ _ us hl => match us, hl with | [_, _], _ => rfl)
  have c_due := g_lw_due.cal (Z := Z) (ok_due g_lw_due.F) (g_lw_due.F.binds fun _ _ _ _ _ _ us hl => match us, hl with | [_, _], _ => rfl)
  have c_wr := g_lw_written.cal (Z := Z) (ok_written g_lw_written.F Y) (g_lw_written.F.binds fun _ _ _ _ _ _ us hl => match us, hl with | [_], _ => rfl)
  have c_bent := g_lw_bent.cal (Z := Z) (ok_bent g_lw_bent.F c_draw) (g_lw_bent.F.binds fun _ _ _ _ _ _ us hl => match us, hl with | [_, _], _ => rfl)
  have c_right := g_lw_right.cal (Z := Z) (ok_right g_lw_right.F T Y O c_ord c_due c_wr) (g_lw_right.F.binds fun _ _ _ _ _ _ us hl => match us, hl with | [_, _, _], _ => rfl)
  have c_read : CalG Z CX0 7 "_law_read" ["_law_text"] (spRead K) := ⟨_, _, ok_read (Z := Z) g_lw_read.F T Y tb (of_decide_eq_true cx2) c_parse c_top c_under, g_lw_read.m, g_lw_read.F.kp, (g_lw_read.F.binds fun _ _ _ _ _ _ us hl => match us, hl with | [_], _ => rfl)⟩
  have c_own : CalG Z CX0 2 "_law_own_read" ["_law_text"] spOwn := ⟨_, _, ok_own_read (Z := Z) g_lw_own_read.F T D Y c_low c_wr, g_lw_own_read.m, g_lw_own_read.F.kp, (g_lw_own_read.F.binds fun _ _ _ _ _ _ us hl => match us, hl with | [_], _ => rfl)⟩
  exact ok_law g_lw_law.F D Y c_low c_opened c_draw c_right c_wr c_bent c_read c_own
end Ps
open PySem PySem.W PySem.Calls PyProof.Rows
theorem PySem.Challenge.cw_planswitches_k02_shares_compared_and_wri_holds : PySem.Challenge.rw_planswitches_k02_shares_compared_and_wri.Holds := by
  w_on; o_law
  refine HandSHeadRun.head_any (r := OpenLaw.row PySem.Challenge.rw_planswitches_k02_shares_compared_and_wri) (q := view (OpenLaw.row PySem.Challenge.rw_planswitches_k02_shares_compared_and_wri).prog [26]) (H := Ps.hk) (ob := Ps.ob) (M := 6000) (loose := Ps.loose) (d := HandSHeadRun.topDef (OpenLaw.row PySem.Challenge.rw_planswitches_k02_shares_compared_and_wri).prog 26) (kwd := []) Ps.ob_eq
    (by kernel_rfl) (fun s => by kernel_rfl) Ps.run (by kernel_rfl) (by kernel_rfl) (by kernel_rfl) (by rfl) (by first | assumption | decide +kernel) (by decide +kernel) ⟨rfl, rfl, rfl, rfl, rfl, by decide +kernel⟩ ?hw ?hc
  case hw => w_witness2
  case hc =>
    refine Ps.walk_G (l := PySem.Challenge.rw_planswitches_k02_shares_compared_and_wri) (n := 63) (k := 9) (x := "_law_script") (CX := L2.CX0) rfl (by decide) (by kernel_rfl) ⟨rfl, by decide, by decide⟩ ?F (fun _ _ _ _ z => z)
    intro w mg fa h Y G hmg0
    obtain ⟨K, KX, c⟩ := Y
    have hmg : mg ("law" : PySem.Str) = some (.ref fa) := by
      have e : (HandSHeadRun.topDef (OpenLaw.row PySem.Challenge.rw_planswitches_k02_shares_compared_and_wri).prog 26).name = ("law" : PySem.Str) := by kernel_rfl
      rw [← e]
      exact hmg0
    obtain ⟨fd, hb, hF⟩ := Ps.facts (P := (PySem.Challenge.rw_planswitches_k02_shares_compared_and_wri).prog) (w := w) KX G hmg c
    exact ⟨K, fd, Ps.spLaw K, KX, hb, fun H a ns hl _ hS => ⟨a, ns, rfl, hS, hl, fun _ => rfl⟩, hF⟩



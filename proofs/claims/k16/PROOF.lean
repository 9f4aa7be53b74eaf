import PyProof.Rows.All
import Wide.All
import OpenK.AllK
import Wide.FinOn
import HandS.ForMost
import HandS.IsInst
import HandS.Property
import HandS.Wide
import HandS.EndBits
import HandS.OwnEq
import HandS.Defaults
import HandS.More
import KE.KStateDown
import HandS.Head0
import HandS.Head1
import HandS.Head2
import HandS.HeadEnd
import HandS.HeadHook1
import HandS.HeadHook2
import HandS.Star
import HandS.ClsMeth
import HandS.Codes
import HandS.Exc
import HandS.TryOnly
import HandS.TryMany
import HandS.ExcOwn
import HandS.ExcSuper
import HandS.ExcField
import HandS.WordsExc
import HandS.ExcCtx
import HandS.HotCalls
import HandS.CallSlots
import KE.SortKeyHeap
import KE.KDictSum
import HandS.Lambda
import HandS.SortKw
import HandS.RaiseMore
import KE.KNestM
import HandS.Walk
import PyProof.RulesMatch
import KE.GoesSet
import KE.GoesMore
import HandS.Strs
import HandS.Text
import PyProof.ReprBulk
import HandS.Style
import PySem.Challenge.RW_planswitches_k16_rows_made
set_option Elab.async false
set_option linter.all false
set_option maxRecDepth 100000
/-! places and scopes of the defs of planswitches_k16_rows_made -/
namespace Ps
open PySem L2
def topS (i : Nat) : Stmt := PySem.Challenge.pw_planswitches_k16_rows_made.main.body.getD i (.Pass ⟨0, 0, 0, 0⟩)
abbrev s_BadRows_dd_init : Stmt := inClass (topS 3) 0
theorem sc_BadRows_dd_init : FnScope ["self", "field"] ["self", "field"] (defScope s_BadRows_dd_init) := ⟨rfl, rfl, rfl, by decide +kernel, rfl, by decide +kernel, by decide +kernel⟩
abbrev s_NoNode_dd_init : Stmt := inClass (topS 4) 0
theorem sc_NoNode_dd_init : FnScope ["self", "value"] ["self", "value"] (defScope s_NoNode_dd_init) := ⟨rfl, rfl, rfl, by decide +kernel, rfl, by decide +kernel, by decide +kernel⟩
abbrev s_is_integer : Stmt := topS 6
theorem sc_is_integer : FnScope ["value"] ["value"] (defScope s_is_integer) := ⟨rfl, rfl, rfl, by decide +kernel, rfl, by decide +kernel, by decide +kernel⟩
abbrev s_is_word : Stmt := topS 10
theorem sc_is_word : FnScope ["value", "sign"] ["value"] (defScope s_is_word) := ⟨rfl, rfl, rfl, by decide +kernel, rfl, by decide +kernel, by decide +kernel⟩
abbrev s_are_nodes : Stmt := topS 13
theorem sc_are_nodes : FnScope ["value", "many", "node"] ["value", "many"] (defScope s_are_nodes) := ⟨rfl, rfl, rfl, by decide +kernel, rfl, by decide +kernel, by decide +kernel⟩
abbrev s_ascending : Stmt := topS 14
theorem sc_ascending : FnScope ["things"] ["things"] (defScope s_ascending) := ⟨rfl, rfl, rfl, by decide +kernel, rfl, by decide +kernel, by decide +kernel⟩
abbrev s_Rows_dd_init : Stmt := inClass (topS 15) 0
theorem sc_Rows_dd_init : FnScope ["self", "kinds", "nexts", "firsts", "word", "many", "row"] ["self", "kinds", "nexts", "firsts"] (defScope s_Rows_dd_init) := ⟨rfl, rfl, rfl, by decide +kernel, rfl, by decide +kernel, by decide +kernel⟩
abbrev s_Rows_dd_len : Stmt := inClass (topS 15) 1
theorem sc_Rows_dd_len : FnScope ["self"] ["self"] (defScope s_Rows_dd_len) := ⟨rfl, rfl, rfl, by decide +kernel, rfl, by decide +kernel, by decide +kernel⟩
abbrev s_Rows_check_node : Stmt := inClass (topS 15) 2
theorem sc_Rows_check_node : FnScope ["self", "node"] ["self", "node"] (defScope s_Rows_check_node) := ⟨rfl, rfl, rfl, by decide +kernel, rfl, by decide +kernel, by decide +kernel⟩
abbrev s_Rows_kind : Stmt := inClass (topS 15) 3
theorem sc_Rows_kind : FnScope ["self", "node"] ["self", "node"] (defScope s_Rows_kind) := ⟨rfl, rfl, rfl, by decide +kernel, rfl, by decide +kernel, by decide +kernel⟩
abbrev s_Rows_nexts : Stmt := inClass (topS 15) 4
theorem sc_Rows_nexts : FnScope ["self", "node"] ["self", "node"] (defScope s_Rows_nexts) := ⟨rfl, rfl, rfl, by decide +kernel, rfl, by decide +kernel, by decide +kernel⟩
abbrev s_Rows_firsts : Stmt := inClass (topS 15) 5
theorem sc_Rows_firsts : FnScope ["self"] ["self"] (defScope s_Rows_firsts) := ⟨rfl, rfl, rfl, by decide +kernel, rfl, by decide +kernel, by decide +kernel⟩
abbrev s_Rows_behind : Stmt := inClass (topS 15) 6
theorem sc_Rows_behind : FnScope ["self", "node"] ["self", "node"] (defScope s_Rows_behind) := ⟨rfl, rfl, rfl, by decide +kernel, rfl, by decide +kernel, by decide +kernel⟩
abbrev s_Rows_dd_contains : Stmt := inClass (topS 15) 7
theorem sc_Rows_dd_contains : FnScope ["self", "row", "word", "places", "ahead", "place", "node"] ["self", "row"] (defScope s_Rows_dd_contains) := ⟨rfl, rfl, rfl, by decide +kernel, rfl, by decide +kernel, by decide +kernel⟩
abbrev s_Rows_dd_eq : Stmt := inClass (topS 15) 8
theorem sc_Rows_dd_eq : FnScope ["self", "other", "mine"] ["self", "other"] (defScope s_Rows_dd_eq) := ⟨rfl, rfl, rfl, by decide +kernel, rfl, by decide +kernel, by decide +kernel⟩
abbrev s_lw_numbers : Stmt := topS 17
theorem sc_lw_numbers : FnScope ["_law_cell", "_law_salt", "_law_sizes", "_law_whole", "_law_left", "_law_result", "_law_k", "_law_one"] ["_law_cell", "_law_salt", "_law_sizes"] (defScope s_lw_numbers) := ⟨rfl, rfl, rfl, by decide +kernel, rfl, by decide +kernel, by decide +kernel⟩
abbrev s_lw_pool : Stmt := topS 18
theorem sc_lw_pool : FnScope ["_law_cell", "_law_salt", "_law_many"] ["_law_cell", "_law_salt", "_law_many"] (defScope s_lw_pool) := ⟨rfl, rfl, rfl, by decide +kernel, rfl, by decide +kernel, by decide +kernel⟩
abbrev s_lw_draw : Stmt := topS 19
theorem sc_lw_draw : FnScope ["_law_pool_here", "_law_many", "_law_at"] ["_law_pool_here", "_law_many"] (defScope s_lw_draw) := ⟨rfl, rfl, rfl, by decide +kernel, rfl, by decide +kernel, by decide +kernel⟩
abbrev s_lw_pick : Stmt := topS 20
theorem sc_lw_pick : FnScope ["_law_pool_here", "_law_some"] ["_law_pool_here", "_law_some"] (defScope s_lw_pick) := ⟨rfl, rfl, rfl, by decide +kernel, rfl, by decide +kernel, by decide +kernel⟩
abbrev s_lw_sorted : Stmt := topS 21
theorem sc_lw_sorted : FnScope ["_law_some"] ["_law_some"] (defScope s_lw_sorted) := ⟨rfl, rfl, rfl, by decide +kernel, rfl, by decide +kernel, by decide +kernel⟩
abbrev s_lw_opened : Stmt := topS 22
theorem sc_lw_opened : FnScope ["_law_script", "_law_k", "_law_many", "_law_cell"] ["_law_script", "_law_k", "_law_many"] (defScope s_lw_opened) := ⟨rfl, rfl, rfl, by decide +kernel, rfl, by decide +kernel, by decide +kernel⟩
abbrev s_lw_words : Stmt := topS 23
theorem sc_lw_words : FnScope ["_law_pool_here", "_law_many", "_law_menus", "_law_some", "_law_at"] ["_law_pool_here", "_law_many"] (defScope s_lw_words) := ⟨rfl, rfl, rfl, by decide +kernel, rfl, by decide +kernel, by decide +kernel⟩
abbrev s_lw_prices : Stmt := topS 24
theorem sc_lw_prices : FnScope ["_law_pool_here", "_law_words_here", "_law_kinds", "_law_word", "_law_own", "_law_make", "_law_general"] ["_law_pool_here", "_law_words_here"] (defScope s_lw_prices) := ⟨rfl, rfl, rfl, by decide +kernel, rfl, by decide +kernel, by decide +kernel⟩
abbrev s_lw_rows : Stmt := topS 25
theorem sc_lw_rows : FnScope ["_law_pool_here", "_law_prices_here", "_law_most", "_law_words_here", "_law_many", "_law_kinds", "_law_node", "_law_nexts", "_law_other", "_law_firsts"] ["_law_pool_here", "_law_prices_here", "_law_most"] (defScope s_lw_rows) := ⟨rfl, rfl, rfl, by decide +kernel, rfl, by decide +kernel, by decide +kernel⟩
abbrev s_lw_made_rows : Stmt := topS 26
theorem sc_lw_made_rows : FnScope ["_law_rows_here", "_law_row"] ["_law_rows_here"] (defScope s_lw_made_rows) := ⟨rfl, rfl, rfl, by decide +kernel, rfl, by decide +kernel, by decide +kernel⟩
abbrev s_lw_told : Stmt := topS 27
theorem sc_lw_told : FnScope ["_law_kinds", "_law_nexts", "_law_firsts", "e"] ["_law_kinds", "_law_nexts", "_law_firsts"] (defScope s_lw_told) := ⟨rfl, rfl, rfl, by decide +kernel, rfl, by decide +kernel, by decide +kernel⟩
abbrev s_lw_right : Stmt := topS 28
theorem sc_lw_right : FnScope ["_law_made", "_law_rows_here", "_law_many", "_law_node", "_law_row"] ["_law_made", "_law_rows_here"] (defScope s_lw_right) := ⟨rfl, rfl, rfl, by decide +kernel, rfl, by decide +kernel, by decide +kernel⟩
abbrev s_lw_no_node : Stmt := topS 29
theorem sc_lw_no_node : FnScope ["_law_made", "_law_odd", "_law_way", "e"] ["_law_made", "_law_odd", "_law_way"] (defScope s_lw_no_node) := ⟨rfl, rfl, rfl, by decide +kernel, rfl, by decide +kernel, by decide +kernel⟩
abbrev s_lw_refused : Stmt := topS 30
theorem sc_lw_refused : FnScope ["_law_rows_here", "_law_kinds", "_law_nexts", "_law_firsts", "_law_many", "_law_odd", "_law_odds"] ["_law_rows_here"] (defScope s_lw_refused) := ⟨rfl, rfl, rfl, by decide +kernel, rfl, by decide +kernel, by decide +kernel⟩
abbrev s_lw_law : Stmt := topS 31
theorem sc_lw_law : FnScope ["_law_script", "_law_k", "_law_pool_here", "_law_prices_here", "_law_rows_here", "_law_many", "_law_nexts", "_law_firsts", "_law_row", "_law_kinds", "_law_made", "_law_told_list", "_law_odd", "_law_way", "_law_other"] ["_law_script"] (defScope s_lw_law) := ⟨rfl, rfl, rfl, by decide +kernel, rfl, by decide +kernel, by decide +kernel⟩
end Ps

set_option maxHeartbeats 4000000
/-! Own operators over the hand layer: the operand on the left is an own instance; or an int on the left and an own instance on the right. -/
namespace Ps
open PySem PySem.Spec PyProof.Rows PySem.W L2

section
variable {prog : Program} {w : World} {A : Around} {E : Value → Shared → Prop} {s : Shared} {K : Frag} {x C L f f' : Addr} {h₀ : Heap} {m : Str → Option Value} {ox : Obj} {od : Option Obj}

theorem asInt_inst {M : Model} {Q : Option Int → Shared → Prop} {dx : Addr} (hx : s.heap.get? x = some (instObj C dx)) (h : Q none s) : wpAny M A (asInt? (.ref x)) Q E s := by
  unfold asInt?
  exact wpAny_bind (wpAny_load hx (wpAny_pure h))

theorem dec_add {t : Tok} {i : Int} {dx : Addr} {Q : Value → Shared → Prop} (hx : s.heap.get? x = some (instObj C dx)) (h : Q .notImplemented s) :
    wpAny (model prog w) A (call (.builtin "int.__add__") [.int i t, .ref x]) Q E s := by
  refine GQ.call_here F.slot_int_add (typeIs_int s i t) F.entry_int_add (F.args_int_add_2 _ _) ?_
  obtain ⟨hp, g, d, tk, os⟩ := s
  wp_walk using asInt_inst hx
  exact h
theorem dec_sub {t : Tok} {i : Int} {dx : Addr} {Q : Value → Shared → Prop} (hx : s.heap.get? x = some (instObj C dx)) (h : Q .notImplemented s) :
    wpAny (model prog w) A (call (.builtin "int.__sub__") [.int i t, .ref x]) Q E s := by
  refine GQ.call_here F.slot_int_sub (typeIs_int s i t) F.entry_int_sub (F.args_int_sub_2 _ _) ?_
  obtain ⟨hp, g, d, tk, os⟩ := s
  wp_walk using asInt_inst hx
  exact h
theorem dec_mul {t : Tok} {i : Int} {dx : Addr} {Q : Value → Shared → Prop} (hx : s.heap.get? x = some (instObj C dx)) (h : Q .notImplemented s) :
    wpAny (model prog w) A (call (.builtin "int.__mul__") [.int i t, .ref x]) Q E s := by
  refine GQ.call_here F.slot_int_mul (typeIs_int s i t) F.entry_int_mul (F.args_int_mul_2 _ _) ?_
  obtain ⟨hp, g, d, tk, os⟩ := s
  wp_walk using asInt_inst hx
  exact h
theorem dec_lt {t : Tok} {i : Int} {dx : Addr} {Q : Value → Shared → Prop} (hx : s.heap.get? x = some (instObj C dx)) (h : Q .notImplemented s) :
    wpAny (model prog w) A (call (.builtin "int.__lt__") [.int i t, .ref x]) Q E s := by
  refine GQ.call_here F.slot_int_lt (typeIs_int s i t) F.entry_int_lt (F.args_int_lt_2 _ _) ?_
  obtain ⟨hp, g, d, tk, os⟩ := s
  wp_walk using asInt_inst hx
  exact h
theorem dec_le {t : Tok} {i : Int} {dx : Addr} {Q : Value → Shared → Prop} (hx : s.heap.get? x = some (instObj C dx)) (h : Q .notImplemented s) :
    wpAny (model prog w) A (call (.builtin "int.__le__") [.int i t, .ref x]) Q E s := by
  refine GQ.call_here F.slot_int_le (typeIs_int s i t) F.entry_int_le (F.args_int_le_2 _ _) ?_
  obtain ⟨hp, g, d, tk, os⟩ := s
  wp_walk using asInt_inst hx
  exact h
theorem dec_gt {t : Tok} {i : Int} {dx : Addr} {Q : Value → Shared → Prop} (hx : s.heap.get? x = some (instObj C dx)) (h : Q .notImplemented s) :
    wpAny (model prog w) A (call (.builtin "int.__gt__") [.int i t, .ref x]) Q E s := by
  refine GQ.call_here F.slot_int_gt (typeIs_int s i t) F.entry_int_gt (F.args_int_gt_2 _ _) ?_
  obtain ⟨hp, g, d, tk, os⟩ := s
  wp_walk using asInt_inst hx
  exact h
theorem dec_ge {t : Tok} {i : Int} {dx : Addr} {Q : Value → Shared → Prop} (hx : s.heap.get? x = some (instObj C dx)) (h : Q .notImplemented s) :
    wpAny (model prog w) A (call (.builtin "int.__ge__") [.int i t, .ref x]) Q E s := by
  refine GQ.call_here F.slot_int_ge (typeIs_int s i t) F.entry_int_ge (F.args_int_ge_2 _ _) ?_
  obtain ⟨hp, g, d, tk, os⟩ := s
  wp_walk using asInt_inst hx
  exact h
theorem dec_eq {t : Tok} {i : Int} {dx : Addr} {Q : Value → Shared → Prop} (hx : s.heap.get? x = some (instObj C dx)) (h : Q .notImplemented s) :
    wpAny (model prog w) A (call (.builtin "int.__eq__") [.int i t, .ref x]) Q E s := by
  refine GQ.call_here F.slot_int_eq (typeIs_int s i t) F.entry_int_eq (F.args_int_eq_2 _ _) ?_
  obtain ⟨hp, g, d, tk, os⟩ := s
  wp_walk using asInt_inst hx
  exact h
theorem dec_ne {t : Tok} {i : Int} {dx : Addr} {Q : Value → Shared → Prop} (hx : s.heap.get? x = some (instObj C dx)) (h : Q .notImplemented s) :
    wpAny (model prog w) A (call (.builtin "int.__ne__") [.int i t, .ref x]) Q E s := by
  refine GQ.call_here F.slot_int_ne (typeIs_int s i t) F.entry_int_ne (F.args_int_ne_2 _ _) ?_
  obtain ⟨hp, g, d, tk, os⟩ := s
  wp_walk using asInt_inst hx
  exact h

/-- an int on the left, an own instance on the right: the reflected method -/
theorem binop_R {op : Operator} {t : Tok} {i : Int} {id : String} {Q : Value → Shared → Prop} (X : K.In s.heap) (I : InstAt s.heap x ox C od) (hc : selfFirst K C = true)
    (hs : findIn K (.ref C) (PySem.dunder op.info.2) = some (some (.ref f'))) (hr : findIn K (.ref C) (dunderR op.info.2) = some (some (.ref f))) (hf : isFn K (.ref f) = true)
    (hsub : subIn K (.ref C) (.type "int") = some false) (hfl : fillsNumberSlot (.type "int") op.info.2 = pure true) (sl : Slot "int" (PySem.dunder op.info.2) id)
    (hd : ∀ Q : Value → Shared → Prop, Q .notImplemented s → wpAny (model prog w) A (call (.builtin id) [.int i t, .ref x]) Q E s)
    (h : wpAny (model prog w) A (call (.ref f) [.ref x, .int i t]) (PySem.W.CmpBack Q) E s) : wpAny (model prog w) A (binaryOp op (.int i t) (.ref x)) Q E s := by
  obtain ⟨cd, rest, hcd, hm⟩ := ksp_first hc
  rcases hi : op.info with ⟨sym, nm'⟩
  rw [hi] at hs hr hfl sl
  dsimp only at hs hr hfl sl
  have one := ksp_try X I hr hf h
  obtain ⟨hh, g, d, tt, os⟩ := s
  have L1 : Looks (model prog w) hh (typeOf (.ref x)) (.ref C) := I.type
  have L2 : Looks (model prog w) hh (typeOf (.int i t)) (.type "int") := Looks.of_pure rfl
  have L3 : Looks (model prog w) hh (fillsNumberSlot (.ref C) nm') true := fills_K X hcd hm hs
  have L4 : Looks (model prog w) hh (fillsNumberSlot (.type "int") nm') true := Looks.of_pure hfl
  have L5 : Looks (model prog w) hh (isSubtype (.ref C) (.type "int")) false := looks_subIn X hsub
  have L7 : Looks (model prog w) hh (numberSlotInPython (.type "int") nm') false := Looks.of_pure rfl
  have dec : wpAny (model prog w) A (tryMethod (.int i t) (PySem.dunder nm') (.ref x)) (fun r s' => r = none ∧ s' = ⟨hh, g, d, tt, os⟩) E ⟨hh, g, d, tt, os⟩ :=
    wpAny_tryMethod_declines (typeIs_int _ i t) sl (hd _ ⟨rfl, rfl, rfl⟩)
  have hne : (Value.type "int" == Value.ref C) = false := Bool.eq_false_iff.mpr fun q => by cases beq_iff_eq.mp q
  simp only [binaryOp, hi]
  refine wpAny_holding (wpAny_bind ?_)
  unfold binaryOp1
  refine wpAny_bind (L2.at (wpAny_bind (L1.at (wpAny_bind (L4.at ?_)))))
  simp only [hne, Bool.false_eq_true, if_false]
  ksp_lk
  refine wpAny_mono dec (fun r s' hr' => ?_) fun _ _ e => e
  obtain ⟨rfl, rfl⟩ := hr'
  ksp_lk
  refine wpAny_mono one (fun r s' hr' => ?_) fun _ _ e => e
  obtain ⟨v, rfl, hq⟩ := hr'
  ksp_lk
  exact hq
end

/-! ### over the layer -/
section
variable {X : Cx} {CX : CXT} {k : Nat} {f C f' : Addr} {fd : FuncData} {ps : List Str} {sp : Sp} {E : XK}

theorem cmpBack {pins : List (Addr × Obj)} {σ : L2.St} {Q : VK} {u : Value} {s : Shared} (h : EP X pins σ Q u s) : PySem.W.CmpBack (EP X pins σ Q) u s := by
  obtain ⟨v, H', I, r, q⟩ := id h
  cases v with
  | non => cases (show u = Value.none from r); exact h
  | bl b => cases (show u = Value.bool b from r); exact h
  | int i => obtain ⟨t, e⟩ := (show ∃ t, u = Value.int i t from r); cases e; exact h
  | str x => obtain ⟨t, e⟩ := (show ∃ t, u = Value.str x t from r); cases e; exact h
  | byt b => obtain ⟨t, e⟩ := (show ∃ t, u = Value.bytes b t from r); cases e; exact h
  | flt b => obtain ⟨t, e⟩ := (show ∃ t, u = Value.float b t from r); cases e; exact h
  | ref a => cases (show u = Value.ref a from r); exact h
  | ty n => cases (show u = Value.type n from r); exact h

/-- the class at C has the method nm at f -/
structure OwnOp (K : Frag) (C f : Addr) (nm : Str) : Prop where
  sf : selfFirst K C = true
  fn : findIn K (.ref C) nm = some (some (.ref f))
  isf : isFn K (.ref f) = true

/-- what is said of an own instance -/
def InsC (C : Addr) (H : Hp) (v : V) : Prop := ∃ a dx fs, v = .ref a ∧ H a = some (.ins C dx fs)
def rOwn (C : Addr) (sp : Sp) (E : XK) : R2 := fun x y H Q => InsC C H x ∧ InsC C H y ∧ sp [x, y] H Q E
def rOwnI (C : Addr) (sp : Sp) (E : XK) : R2 := fun x y H Q => InsC C H x ∧ (∃ i, y = .int i) ∧ sp [x, y] H Q E
def rRefI (C : Addr) (sp : Sp) (E : XK) : R2 := fun x y H Q => (∃ i, x = .int i) ∧ InsC C H y ∧ sp [y, x] H Q E

theorem op_own {op : Operator} (O : OwnOp X.K C f (PySem.dunder op.info.2)) (G : FnOk X.prog X.w X.K X.mg X.base CX k f fd ps sp) (hr : Room k X.A) (hb : Binds X.K fd ps []) (hx : Passes CX X E) : OpR X (binaryOp op) (rOwn C sp E) := by
  intro pins s σ H x y v u Q I rx ry h
  obtain ⟨⟨a, dx, fs, rfl, ha⟩, ⟨b, dy, gs, rfl, hb'⟩, h⟩ := h
  cases (show v = Value.ref a from rx)
  cases (show u = Value.ref b from ry)
  obtain ⟨mA, J, _⟩ := ins_get I.hok ha
  obtain ⟨mB, J', _⟩ := ins_get I.hok hb'
  obtain ⟨od, J, _⟩ := J.look
  obtain ⟨od', J', _⟩ := J'.look
  obtain ⟨m, hF⟩ := I.fr
  refine binop_K hF I.ok.mod.kin J J'.type O.sf O.fn O.isf ?_
  exact wpAny_mono (run_fn (us := [.ref a, .ref b]) (vs := [.ref a, .ref b]) (dvs := []) G hr hb .nil hx I (.cons rfl (.cons rfl .nil)) h) (fun _ _ z => cmpBack z) fun _ _ z => z

theorem op_ownI {op : Operator} {fo ro rc : Option Value} (O : OwnOp X.K C f (PySem.dunder op.info.2)) (hrc : findIn X.K (.ref C) (dunderR op.info.2) = some rc) (hp : rc = none ∨ ∃ g : Addr, rc = some (.ref g))
    (h1 : findIn X.K (.type "int") (PySem.dunder op.info.2) = some fo) (h2 : findIn X.K (.type "int") (dunderR op.info.2) = some ro) (hsub : subIn X.K (.type "int") (.ref C) = some false)
    (G : FnOk X.prog X.w X.K X.mg X.base CX k f fd ps sp) (hr : Room k X.A) (hb : Binds X.K fd ps []) (hx : Passes CX X E) : OpR X (binaryOp op) (rOwnI C sp E) := by
  intro pins s σ H x y v u Q I rx ry h
  obtain ⟨⟨a, dx, fs, rfl, ha⟩, ⟨i, rfl⟩, h⟩ := h
  cases (show v = Value.ref a from rx)
  obtain ⟨t, e⟩ := (show ∃ t, u = Value.int i t from ry)
  cases e
  obtain ⟨mA, J, _⟩ := ins_get I.hok ha
  obtain ⟨od, J, _⟩ := J.look
  obtain ⟨m, hF⟩ := I.fr
  refine ksp_binT hF I.ok.mod.kin J (T := "int") rfl O.sf O.fn O.isf hrc hp h1 h2 hsub ?_
  exact wpAny_mono (run_fn (us := [.ref a, .int i t]) (vs := [.ref a, .int i]) (dvs := []) G hr hb .nil hx I (.cons rfl (.cons ⟨t, rfl⟩ .nil)) h) (fun _ _ z => cmpBack z) fun _ _ z => z

theorem op_refI {op : Operator} {id : String} (O : OwnOp X.K C f (dunderR op.info.2)) (hs : findIn X.K (.ref C) (PySem.dunder op.info.2) = some (some (.ref f'))) (hsub : subIn X.K (.ref C) (.type "int") = some false)
    (hfl : fillsNumberSlot (.type "int") op.info.2 = pure true) (sl : Slot "int" (PySem.dunder op.info.2) id)
    (hd : ∀ {s : Shared} {x C dx : Addr} {t : Tok} {i : Int} {Q : Value → Shared → Prop}, s.heap.get? x = some (instObj C dx) → Q .notImplemented s → wpAny (model X.prog X.w) X.A (call (.builtin id) [.int i t, .ref x]) Q X.xe s)
    (G : FnOk X.prog X.w X.K X.mg X.base CX k f fd ps sp) (hr : Room k X.A) (hb : Binds X.K fd ps []) (hx : Passes CX X E) : OpR X (binaryOp op) (rRefI C sp E) := by
  intro pins s σ H x y v u Q I rx ry h
  obtain ⟨⟨i, rfl⟩, ⟨a, dx, fs, rfl, ha⟩, h⟩ := h
  cases (show u = Value.ref a from ry)
  obtain ⟨t, e⟩ := (show ∃ t, v = Value.int i t from rx)
  cases e
  obtain ⟨mA, J0, _⟩ := ins_get I.hok ha
  obtain ⟨_, _, _, hget, _⟩ := (show ObjOk X.prog X.w H s.heap a (.ins C dx fs) from I.hok a _ ha)
  obtain ⟨od, J, _⟩ := J0.look
  refine binop_R I.kIn J O.sf hs O.fn O.isf hsub hfl sl (fun Q q => hd hget q) ?_
  exact wpAny_mono (run_fn (us := [.ref a, .int i t]) (vs := [.ref a, .int i]) (dvs := []) G hr hb .nil hx I (.cons rfl (.cons ⟨t, rfl⟩ .nil)) h) (fun _ _ z => cmpBack z) fun _ _ z => z

/-- -x, abs(x) -/
def rUOwn (C : Addr) (sp : Sp) (E : XK) : V → Hp → VK → Prop := fun x H Q => InsC C H x ∧ sp [x] H Q E
theorem un_own (O : OwnOp X.K C f "__neg__") (G : FnOk X.prog X.w X.K X.mg X.base CX k f fd ps sp) (hr : Room k X.A) (hb : Binds X.K fd ps []) (hx : Passes CX X E) : UnR X (unaryOp .USub) (rUOwn C sp E) := by
  intro pins s σ H x v Q I rx h
  obtain ⟨⟨a, dx, fs, rfl, ha⟩, h⟩ := h
  cases (show v = Value.ref a from rx)
  obtain ⟨mA, J, _⟩ := ins_get I.hok ha
  obtain ⟨od, J, _⟩ := J.look
  obtain ⟨m, hF⟩ := I.fr
  exact ksp_neg hF I.ok.mod.kin J O.fn O.isf (run_fn (us := [.ref a]) (vs := [.ref a]) (dvs := []) G hr hb .nil hx I (.cons rfl .nil) h)

/-- the callee runs, called out of a builtin -/
theorem run_fn1 {pins : List (Addr × Obj)} {σ : L2.St} {H : Hp} {s : Shared} {Q : VK} {us : List Value} {vs : List V} (F : FnOk X.prog X.w X.K X.mg X.base CX k f fd ps sp) (hr : Room (k + 1) X.A) (hb : Binds X.K fd ps []) (hx : Passes CX X E)
    (I : L2.Inv X pins σ H s) (r : Vals vs us) (h : sp vs H Q E) : wpAny (model X.prog X.w) X.A.in1 (call (.ref f) us) (EP X pins σ Q) X.xe s := by
  have hl : (us ++ []).length = ps.length := by rw [List.append_nil, ← r.length]; exact F.len _ _ _ _ h
  have hb' := hb s us I.kIn hl
  rw [List.append_nil] at hb'
  refine wpAny_call (codeAny_mono (F.run X.A.in1 X.stack s H ⟨us, []⟩ us vs Q E hr.in1 I.env0.in1 hb' r h) fun r s' hq => ?_)
  cases r with
  | error e => exact hx pins σ H s e s' I hq
  | ok fl =>
    cases fl with
    | ret u => exact I.after hq
    | next => exact False.elim hq
    | brk => exact False.elim hq
    | cont => exact False.elim hq
theorem call_absO (O : OwnOp X.K C f "__abs__") (G : FnOk X.prog X.w X.K X.mg X.base CX k f fd ps sp) (hr : Room (k + 1) X.A) (hb : Binds X.K fd ps []) (hx : Passes CX X E) : CallR X (.builtin "abs") (fun xs H Q => ∃ x, xs = [x] ∧ InsC C H x ∧ sp [x] H Q E) := by
  intro pins s σ H xs us Q I r h
  obtain ⟨x, rfl, ⟨a, dx, fs, rfl, ha⟩, h⟩ := h
  obtain ⟨u, rfl, r1⟩ := vals1 r
  cases (show u = Value.ref a from r1)
  obtain ⟨mA, J, _⟩ := ins_get I.hok ha
  obtain ⟨od, J, _⟩ := J.look
  refine PySem.Calls.call_function_entry kind_abs plain_abs entry_abs (args_abs _) ?_
  unfold Builtin.«abs»
  refine wpAny_bind (m := oneArg "abs" _) (wpAny_pure ?_)
  refine wpAny_bind (special_fn I.kIn J O.fn (beq_iff_eq.mp O.isf) (wpAny_mono (run_fn1 (us := [.ref a]) (vs := [.ref a]) G hr hb hx I (.cons rfl .nil) h) (fun v s' z => ?_) fun _ _ z => z))
  exact wpAny_pure ⟨_, rfl, z⟩
end
end Ps

/-! Fractions in lowest terms, in plain Lean. -/
namespace Ps
def lowG (t u : Int) : Int := if u < 0 then -(Int.gcd t u : Int) else (Int.gcd t u : Int)
/-- what Share keeps of a top and an under -/
def low (t u : Int) : Int × Int := (t.fdiv (lowG t u), u.fdiv (lowG t u))
theorem gcd_pos {t u : Int} (hu : u ≠ 0) : 0 < Int.gcd t u := Int.gcd_pos_of_ne_zero_right t hu
theorem lowG_ne {t u : Int} (hu : u ≠ 0) : lowG t u ≠ 0 := by
  have h := gcd_pos (t := t) hu
  unfold lowG
  split <;> omega
theorem lowG_abs (t u : Int) : (lowG t u).natAbs = Int.gcd t u := by
  unfold lowG
  split <;> omega
theorem lowG_dvd_left (t u : Int) : lowG t u ∣ t := by
  have h : (Int.gcd t u : Int) ∣ t := Int.gcd_dvd_left ..
  unfold lowG
  split
  · exact Int.neg_dvd.mpr h
  · exact h
theorem lowG_dvd_right (t u : Int) : lowG t u ∣ u := by
  have h : (Int.gcd t u : Int) ∣ u := Int.gcd_dvd_right ..
  unfold lowG
  split
  · exact Int.neg_dvd.mpr h
  · exact h
theorem low_fst {t u : Int} (hu : u ≠ 0) : (low t u).1 * lowG t u = t := by
  obtain ⟨c, hc⟩ := lowG_dvd_left t u
  show t.fdiv (lowG t u) * lowG t u = t
  have : t.fdiv (lowG t u) = c := by
    rw [Int.fdiv_eq_of_eq_mul_right (lowG_ne hu) hc]
  rw [this, Int.mul_comm, ← hc]
theorem low_snd {t u : Int} (hu : u ≠ 0) : (low t u).2 * lowG t u = u := by
  obtain ⟨c, hc⟩ := lowG_dvd_right t u
  show u.fdiv (lowG t u) * lowG t u = u
  have : u.fdiv (lowG t u) = c := by
    rw [Int.fdiv_eq_of_eq_mul_right (lowG_ne hu) hc]
  rw [this, Int.mul_comm, ← hc]
theorem lowG_scale (k t u : Int) (hu : u ≠ 0) (hk : k ≠ 0) : lowG (k * t) (k * u) = k * lowG t u := by
  unfold lowG
  rw [Int.gcd_mul_left]
  have e : ((k.natAbs * Int.gcd t u : Nat) : Int) = (k.natAbs : Int) * (Int.gcd t u : Int) := by push_cast; rfl
  rw [e]
  rcases Int.lt_or_gt_of_ne hk with h | h
  · have ek : (k.natAbs : Int) = -k := by omega
    rw [ek]
    rcases Int.lt_or_gt_of_ne hu with h' | h'
    · have : 0 < k * u := Int.mul_pos_of_neg_of_neg h h'
      rw [if_neg (by omega), if_pos h', Int.neg_mul, Int.mul_neg]
    · have : k * u < 0 := Int.mul_neg_of_neg_of_pos h h'
      rw [if_pos this, if_neg (by omega), Int.neg_mul, Int.neg_neg]
  · have ek : (k.natAbs : Int) = k := by omega
    rw [ek]
    rcases Int.lt_or_gt_of_ne hu with h' | h'
    · have : k * u < 0 := Int.mul_neg_of_pos_of_neg h h'
      rw [if_pos this, if_pos h', Int.mul_neg]
    · have : 0 < k * u := Int.mul_pos h h'
      rw [if_neg (by omega), if_neg (by omega)]
/-- from an equation by products -/
theorem fdiv_of {a b c : Int} (hb : b ≠ 0) (h : a = c * b) : a.fdiv b = c := by
  rw [Int.fdiv_eq_of_eq_mul_right hb (by rw [h, Int.mul_comm])]
theorem low_scale (k t u : Int) (hu : u ≠ 0) (hk : k ≠ 0) : low (k * t) (k * u) = low t u := by
  have h1 := low_fst (t := t) hu
  have h2 := low_snd (t := t) hu
  have hg := lowG_ne (t := t) hu
  have hkg : k * lowG t u ≠ 0 := Int.mul_ne_zero hk hg
  unfold low
  rw [lowG_scale k t u hu hk]
  refine Prod.ext ?_ ?_
  · show (k * t).fdiv (k * lowG t u) = (low t u).1
    refine fdiv_of hkg ?_
    rw [show (low t u).1 * (k * lowG t u) = k * ((low t u).1 * lowG t u) by rw [Int.mul_left_comm], h1]
  · show (k * u).fdiv (k * lowG t u) = (low t u).2
    refine fdiv_of hkg ?_
    rw [show (low t u).2 * (k * lowG t u) = k * ((low t u).2 * lowG t u) by rw [Int.mul_left_comm], h2]
/-- the same fraction -/
theorem low_of {t u a b k : Int} (hb : b ≠ 0) (hk : k ≠ 0) (h1 : t = k * a) (h2 : u = k * b) : low t u = low a b := by
  rw [h1, h2, low_scale k a b hb hk]
theorem low_pos {t u : Int} (hu : u ≠ 0) : 0 < (low t u).2 := by
  have h2 := low_snd (t := t) hu
  have hg := gcd_pos (t := t) hu
  unfold lowG at h2
  rcases Int.lt_or_gt_of_ne hu with h | h
  · rw [if_pos h] at h2
    rcases Int.lt_trichotomy (low t u).2 0 with z | z | z
    · have := Int.mul_pos_of_neg_of_neg z (show -(Int.gcd t u : Int) < 0 by omega)
      omega
    · rw [z, Int.zero_mul] at h2; omega
    · exact z
  · rw [if_neg (by omega)] at h2
    rcases Int.lt_trichotomy (low t u).2 0 with z | z | z
    · have := Int.mul_neg_of_neg_of_pos z (show (0 : Int) < (Int.gcd t u : Int) by omega)
      omega
    · rw [z, Int.zero_mul] at h2; omega
    · exact z
theorem low_le1 {t u : Int} (hu : u ≠ 0) : (low t u).1.natAbs ≤ t.natAbs := by
  have h := congrArg Int.natAbs (low_fst (t := t) hu)
  rw [Int.natAbs_mul, lowG_abs] at h
  rw [← h]
  exact Nat.le_mul_of_pos_right _ (gcd_pos hu)
theorem low_le2 {t u : Int} (hu : u ≠ 0) : (low t u).2.natAbs ≤ u.natAbs := by
  have h := congrArg Int.natAbs (low_snd (t := t) hu)
  rw [Int.natAbs_mul, lowG_abs] at h
  rw [← h]
  exact Nat.le_mul_of_pos_right _ (gcd_pos hu)
theorem low_gcd {t u : Int} (hu : u ≠ 0) : Int.gcd (low t u).1 (low t u).2 = 1 := by
  have h1 := low_fst (t := t) hu
  have h2 := low_snd (t := t) hu
  have e : Int.gcd t u = Int.gcd (low t u).1 (low t u).2 * Int.gcd t u := by
    have := Int.gcd_mul_right (low t u).1 (lowG t u) (low t u).2
    rw [h1, h2, lowG_abs] at this
    exact this
  have hg := gcd_pos (t := t) hu
  have := Nat.eq_of_mul_eq_mul_right hg (show 1 * Int.gcd t u = Int.gcd (low t u).1 (low t u).2 * Int.gcd t u by rw [Nat.one_mul]; exact e)
  exact this.symm
theorem low_id {t u : Int} (hu : 0 < u) (hg : Int.gcd t u = 1) : low t u = (t, u) := by
  have e : lowG t u = 1 := by
    unfold lowG
    rw [if_neg (by omega), hg]; rfl
  unfold low
  rw [e, Int.fdiv_one, Int.fdiv_one]
theorem low_low {t u : Int} (hu : u ≠ 0) : low (low t u).1 (low t u).2 = low t u := by
  rw [low_id (low_pos hu) (low_gcd hu)]
theorem low_one (t : Int) : low t 1 = (t, 1) := low_id (by decide) (by simp)
/-! sums, products and quotients of fractions in lowest terms -/
theorem low_ex (t : Int) {u : Int} (hu : u ≠ 0) : ∃ a b g, low t u = (a, b) ∧ g ≠ 0 ∧ 0 < b ∧ t = a * g ∧ u = b * g :=
  ⟨(low t u).1, (low t u).2, lowG t u, rfl, lowG_ne hu, low_pos hu, (low_fst hu).symm, (low_snd hu).symm⟩
theorem low_add {t u c d : Int} (hu : u ≠ 0) (hd : d ≠ 0) : low ((low t u).1 * (low c d).2 + (low c d).1 * (low t u).2) ((low t u).2 * (low c d).2) = low (t * d + c * u) (u * d) := by
  obtain ⟨a, b, g, e1, hg, hb, rfl, rfl⟩ := low_ex t hu
  obtain ⟨p, q, h, e2, hh, hq, rfl, rfl⟩ := low_ex c hd
  rw [e1, e2]
  symm
  refine low_of (k := g * h) (Int.ne_of_gt (Int.mul_pos hb hq)) (Int.mul_ne_zero hg hh) ?_ ?_
  · show a * g * (q * h) + p * h * (b * g) = g * h * (a * q + p * b)
    grind
  · show b * g * (q * h) = g * h * (b * q)
    grind
theorem low_sub {t u c d : Int} (hu : u ≠ 0) (hd : d ≠ 0) : low ((low t u).1 * (low c d).2 + -(low c d).1 * (low t u).2) ((low t u).2 * (low c d).2) = low (t * d - c * u) (u * d) := by
  obtain ⟨a, b, g, e1, hg, hb, rfl, rfl⟩ := low_ex t hu
  obtain ⟨p, q, h, e2, hh, hq, rfl, rfl⟩ := low_ex c hd
  rw [e1, e2]
  symm
  refine low_of (k := g * h) (Int.ne_of_gt (Int.mul_pos hb hq)) (Int.mul_ne_zero hg hh) ?_ ?_
  · show a * g * (q * h) - p * h * (b * g) = g * h * (a * q + -p * b)
    grind
  · show b * g * (q * h) = g * h * (b * q)
    grind
theorem low_mul {t u c d : Int} (hu : u ≠ 0) (hd : d ≠ 0) : low ((low t u).1 * (low c d).1) ((low t u).2 * (low c d).2) = low (t * c) (u * d) := by
  obtain ⟨a, b, g, e1, hg, hb, rfl, rfl⟩ := low_ex t hu
  obtain ⟨p, q, h, e2, hh, hq, rfl, rfl⟩ := low_ex c hd
  rw [e1, e2]
  symm
  refine low_of (k := g * h) (Int.ne_of_gt (Int.mul_pos hb hq)) (Int.mul_ne_zero hg hh) ?_ ?_
  · show a * g * (p * h) = g * h * (a * p)
    grind
  · show b * g * (q * h) = g * h * (b * q)
    grind
theorem low_ne0 {t u : Int} (hu : u ≠ 0) : (low t u).1 = 0 ↔ t = 0 := by
  have h := low_fst (t := t) hu
  constructor
  · intro z
    rw [z, Int.zero_mul] at h
    exact h.symm
  · intro z
    rw [z] at h
    rcases Int.mul_eq_zero.mp h with y | y
    · rw [z]; exact y
    · exact absurd y (lowG_ne hu)
theorem low_by {t u c d : Int} (hu : u ≠ 0) (hd : d ≠ 0) (hc : c ≠ 0) : low ((low t u).1 * (low c d).2) ((low t u).2 * (low c d).1) = low (t * d) (u * c) := by
  have z : ¬ (low c d).1 = 0 := fun y => hc ((low_ne0 (t := c) hd).mp y)
  obtain ⟨a, b, g, e1, hg, hb, rfl, rfl⟩ := low_ex t hu
  obtain ⟨p, q, h, e2, hh, hq, rfl, rfl⟩ := low_ex c hd
  rw [e2] at z
  rw [e1, e2]
  symm
  refine low_of (k := g * h) (Int.mul_ne_zero (Int.ne_of_gt hb) z) (Int.mul_ne_zero hg hh) ?_ ?_
  · show a * g * (q * h) = g * h * (a * q)
    grind
  · show b * g * (p * h) = g * h * (b * p)
    grind
theorem low_neg {t u : Int} (hu : u ≠ 0) : low (-(low t u).1) (low t u).2 = low (-t) u := by
  obtain ⟨a, b, g, e1, hg, hb, rfl, rfl⟩ := low_ex t hu
  rw [e1]
  symm
  refine low_of (k := g) (Int.ne_of_gt hb) hg ?_ ?_
  · show -(a * g) = g * -a
    grind
  · show b * g = g * b
    grind
/-- a fraction in lowest terms, its sign turned -/
theorem low_neg_eq {t u : Int} (hu : u ≠ 0) : low (-t) u = (-(low t u).1, (low t u).2) := by
  rw [← low_neg hu]
  refine low_id (low_pos hu) ?_
  rw [Int.neg_gcd]
  exact low_gcd hu
def iabs (i : Int) : Int := if i < 0 then -i else i
theorem iabs_eq (i : Int) : iabs i = (i.natAbs : Int) := by unfold iabs; split <;> omega
theorem low_abs {t u : Int} (hu : u ≠ 0) : low (iabs (low t u).1) (low t u).2 = low (iabs t) (iabs u) := by
  obtain ⟨a, b, g, e1, hg, hb, rfl, rfl⟩ := low_ex t hu
  rw [e1, iabs_eq, iabs_eq, iabs_eq]
  symm
  refine low_of (k := g.natAbs) (Int.ne_of_gt hb) (by omega) ?_ ?_
  · show ((a * g).natAbs : Int) = g.natAbs * (a.natAbs : Int)
    rw [Int.natAbs_mul, Int.natCast_mul, Int.mul_comm]
  · show ((b * g).natAbs : Int) = g.natAbs * b
    rw [Int.natAbs_mul, Int.natCast_mul, Int.mul_comm, show (b.natAbs : Int) = b by omega]
theorem low_floor {t u : Int} (hu : u ≠ 0) : (low t u).1 / (low t u).2 = t.fdiv u := by
  obtain ⟨a, b, g, e1, hg, hb, rfl, rfl⟩ := low_ex t hu
  rw [e1]
  show a / b = (a * g).fdiv (b * g)
  rcases Int.lt_or_gt_of_ne hg with h | h
  · rw [show a * g = -(a * -g) by grind, show b * g = -(b * -g) by grind, Int.neg_fdiv_neg, Int.fdiv_eq_ediv_of_nonneg _ (Int.le_of_lt (Int.mul_pos hb (by omega))), Int.mul_ediv_mul_of_pos_left _ _ (by omega)]
  · rw [Int.fdiv_eq_ediv_of_nonneg _ (Int.le_of_lt (Int.mul_pos hb h)), Int.mul_ediv_mul_of_pos_left _ _ h]
theorem gcd_step {x y : Int} (hx : 0 ≤ x) (hy : 0 ≤ y) : Int.gcd y (x % y) = Int.gcd x y := by
  obtain ⟨m, rfl⟩ := Int.eq_ofNat_of_zero_le hx
  obtain ⟨n, rfl⟩ := Int.eq_ofNat_of_zero_le hy
  rw [← Int.natCast_emod, Int.gcd_natCast_natCast, Int.gcd_natCast_natCast, Nat.gcd_comm n, ← Nat.gcd_rec, Nat.gcd_comm]
end Ps

/-! Defs, methods, classes, operators, properties of the text as things to be called, their addresses hidden. -/
namespace Ps
open PySem PySem.Spec PyProof.Rows PySem.W L2

/-- where one stands, the same for all defs of the text -/
structure Cz where
  P : Program
  w : World
  K : Frag
  mg : Str → Option Value
  base : Heap
abbrev Cz.ok (Z : Cz) (CX : CXT) (k : Nat) (f : Addr) (fd : FuncData) (ps : List Str) (sp : Sp) : Prop := FnOk Z.P Z.w Z.K Z.mg Z.base CX k f fd ps sp
/-- a def -/
def Cal (Z : Cz) (CX : CXT) (k : Nat) (x : Str) (ps : List Str) (dvs : List V) (sp : Sp) : Prop := ∃ f fd ds, Z.ok CX k f fd ps sp ∧ Z.mg x = some (.ref f) ∧ keepIn Z.K (.ref f) = true ∧ Binds Z.K fd ps ds ∧ Vals dvs ds
/-- a method m of the class at C -/
def CalM (Z : Cz) (CX : CXT) (k : Nat) (C : Addr) (m : Str) (ps : List Str) (dvs : List V) (sp : Sp) : Prop := ∃ f fd ds, Z.ok CX k f fd ps sp ∧ Meth Z.K C m f ∧ Cls Z.K C ∧ Binds Z.K fd ps ds ∧ Vals dvs ds
/-- the class at C, made by its __init__ -/
def CalC (Z : Cz) (CX : CXT) (k : Nat) (C : Addr) (x : Str) (ps : List Str) (dvs : List V) (sp : Sp) : Prop := ∃ f fd ds, Z.ok CX k f fd ps sp ∧ Mk Z.K C f ∧ Z.mg x = some (.ref C) ∧ Binds Z.K fd ps ds ∧ Vals dvs ds
/-- a special method nm of the class at C -/
def CalS (Z : Cz) (CX : CXT) (k : Nat) (C : Addr) (nm : Str) (ps : List Str) (sp : Sp) : Prop := ∃ f fd, Z.ok CX k f fd ps sp ∧ OwnOp Z.K C f nm ∧ Binds Z.K fd ps []
/-- a property -/
def CalP (Z : Cz) (CX : CXT) (k : Nat) (C : Addr) (nm : Str) (sp : Sp) : Prop := ∃ p g fd ds, Z.ok CX k g fd ["self"] sp ∧ PropOf Z.K C nm p g ∧ Cls Z.K C ∧ Binds Z.K fd ["self"] ds ∧ Vals [] ds

/-- a body stands in Z -/
structure InZ (Z : Cz) (X : Cx) : Prop where
  P : X.prog = Z.P
  w : X.w = Z.w
  K : X.K = Z.K
  mg : X.mg = Z.mg
  base : X.base = Z.base

section
variable {Z : Cz} {X : Cx} {CX : CXT} {k : Nat} {C : Addr} {ps : List Str} {sp : Sp} {dvs : List V} {E : XK} {x m nm : Str} {p pos apos : Pos} {e o a b : Expr} {es : List Expr} {ta tb : TE} {t : TA}
theorem InZ.ok (z : InZ Z X) {f : Addr} {fd : FuncData} (G : Z.ok CX k f fd ps sp) : FnOk X.prog X.w X.K X.mg X.base CX k f fd ps sp := by
  obtain ⟨h1, h2, h3, h4, h5⟩ := z
  rw [h1, h2, h3, h4, h5]
  exact G
theorem pe_cal (c : Cal Z CX k x ps dvs sp) (hr : Room k X.A) (hg : Gl X x) (hx : Passes CX X E) (ha : PA X (e :: es) t) (z : InZ Z X := by exact ⟨rfl, rfl, rfl, rfl, rfl⟩)
    (hdb : (x == ("__debug__" : Str)) = false := by decide) (he : starEach (e :: es) X.env = (false, eval e X.env) :: starEach es X.env := by rfl) (hpl : (backTo pos (starEach es X.env)).any (·.1) = false := by rfl) :
    PE X (.Call (.Name x p) (e :: es) [] pos) (tCall sp dvs E t) := by
  obtain ⟨f, fd, ds, G, h1, h2, h3, h4⟩ := c
  exact pe_call (z.ok G) hr hg (by rw [z.mg]; exact h1) (by rw [z.K]; exact h2) (by rw [z.K]; exact h3) h4 hx ha hdb he hpl
theorem pe_cal0 (c : Cal Z CX k x ps dvs sp) (hr : Room k X.A) (hg : Gl X x) (hx : Passes CX X E) (z : InZ Z X := by exact ⟨rfl, rfl, rfl, rfl, rfl⟩)
    (hdb : (x == ("__debug__" : Str)) = false := by decide) : PE X (.Call (.Name x p) [] [] pos) (tCall sp dvs E tNil) := by
  obtain ⟨f, fd, ds, G, h1, h2, h3, h4⟩ := c
  exact pe_call0 (z.ok G) hr hg (by rw [z.mg]; exact h1) (by rw [z.K]; exact h2) (by rw [z.K]; exact h3) h4 hx hdb
theorem pe_calM {pl : Sem Bool} (c : CalM Z CX k C m ps dvs sp) (hr : Room k X.A) (hx : Passes CX X E) (he : PE X o ta) (ha : PA X (e :: es) t) (z : InZ Z X := by exact ⟨rfl, rfl, rfl, rfl, rfl⟩)
    (hst : starEach (e :: es) X.env = (false, eval e X.env) :: starEach es X.env := by rfl) (hpl : (backTo pos (starEach es X.env)).any (·.1) = false := by rfl)
    (ht : eval (.Call (.Attribute o m apos) (e :: es) [] pos) X.env = (do
      let ov ← eval o X.env
      standAt apos.atName
      let (f, first) ← holding [ov] (getMethod ov m pl)
      callWith pos f first (backTo pos (starEach (e :: es) X.env)) (backToKw pos (keywordEach [] X.env))) := by rfl) :
    PE X (.Call (.Attribute o m apos) (e :: es) [] pos) (tMeth C m sp dvs E ta t) := by
  obtain ⟨f, fd, ds, G, h1, h2, h3, h4⟩ := c
  exact pe_meth (pl := pl) he (by rw [z.K]; exact h2) (by rw [z.K]; exact h1) (z.ok G) hr (by rw [z.K]; exact h3) h4 hx ha hst hpl ht
theorem pe_calM0 {pl : Sem Bool} (c : CalM Z CX k C m ps dvs sp) (hr : Room k X.A) (hx : Passes CX X E) (he : PE X o ta) (z : InZ Z X := by exact ⟨rfl, rfl, rfl, rfl, rfl⟩)
    (ht : eval (.Call (.Attribute o m apos) [] [] pos) X.env = (do
      let ov ← eval o X.env
      standAt apos.atName
      let (f, first) ← holding [ov] (getMethod ov m pl)
      callWith pos f first (backTo pos (starEach [] X.env)) (backToKw pos (keywordEach [] X.env))) := by rfl) :
    PE X (.Call (.Attribute o m apos) [] [] pos) (tMeth C m sp dvs E ta tNil) := by
  obtain ⟨f, fd, ds, G, h1, h2, h3, h4⟩ := c
  exact pe_meth0 (pl := pl) he (by rw [z.K]; exact h2) (by rw [z.K]; exact h1) (z.ok G) hr (by rw [z.K]; exact h3) h4 hx ht
theorem pe_calC (c : CalC Z CX k C x ps dvs sp) (hr : Room (k + 1) X.A) (hg : Gl X x) (hx : Passes CX X E) (ha : PA X (e :: es) t) (z : InZ Z X := by exact ⟨rfl, rfl, rfl, rfl, rfl⟩)
    (hdb : (x == ("__debug__" : Str)) = false := by decide) (he : starEach (e :: es) X.env = (false, eval e X.env) :: starEach es X.env := by rfl) (hpl : (backTo pos (starEach es X.env)).any (·.1) = false := by rfl) :
    PE X (.Call (.Name x p) (e :: es) [] pos) (tMake C sp dvs E t) := by
  obtain ⟨f, fd, ds, G, h1, h2, h3, h4⟩ := c
  exact pe_make (by rw [z.K]; exact h1) (z.ok G) hr hg (by rw [z.mg]; exact h2) (by rw [z.K]; exact h3) h4 hx ha hdb he hpl
theorem pe_calP (c : CalP Z CX k C nm sp) (hr : Room (k + 1) X.A) (hx : Passes CX X.nox E) (he : PE X e ta) (hab : attributeBase e nm X.env (eval e X.env) = eval e X.env) (z : InZ Z X := by exact ⟨rfl, rfl, rfl, rfl, rfl⟩) : PE X (.Attribute e nm pos) (tProp C sp [] E ta) := by
  obtain ⟨p, g, fd, ds, G, h1, h2, h3, h4⟩ := c
  exact pe_prop he (by rw [z.K]; exact h2) (by rw [z.K]; exact h1) (z.ok G) hr (by rw [z.K]; exact h3) h4 hx hab

/-- what is known of the number methods of a class and of int's -/
structure NumF (K : Frag) (C : Addr) (nm : String) : Prop where
  l : ∃ f, findIn K (.ref C) (PySem.dunder nm) = some (some (.ref f))
  r : ∃ f, findIn K (.ref C) (dunderR nm) = some (some (.ref f))
  il : ∃ o, findIn K (.type "int") (PySem.dunder nm) = some o
  ir : ∃ o, findIn K (.type "int") (dunderR nm) = some o
  sub : subIn K (.type "int") (.ref C) = some false
  sup : subIn K (.ref C) (.type "int") = some false
/-- a number on the right: x + y, x an own instance, y one or an int -/
def rNum (C : Addr) (sp : Sp) (E : XK) : R2 := fun x y H Q => InsC C H x ∧ (InsC C H y ∨ ∃ i, y = .int i) ∧ sp [x, y] H Q E
theorem op_num {op : Operator} (c : CalS Z CX k C (PySem.dunder op.info.2) ps sp) (N : NumF Z.K C op.info.2) (hr : Room k X.A) (hx : Passes CX X E) (z : InZ Z X := by exact ⟨rfl, rfl, rfl, rfl, rfl⟩) : OpR X (binaryOp op) (rNum C sp E) := by
  obtain ⟨f, fd, G, h1, h2⟩ := c
  obtain ⟨_, ⟨fr, hfr⟩, ⟨o1, ho1⟩, ⟨o2, ho2⟩, hs1, hs2⟩ := N
  have z' := z
  obtain ⟨e1, e2, e3, e4, e5⟩ := z
  intro pins s σ H x y v u Q I rx ry h
  obtain ⟨hx', hy | hy, hsp⟩ := h
  · exact op_own (by rw [e3]; exact h1) (z'.ok G) hr (by rw [e3]; exact h2) hx pins s σ H x y v u Q I rx ry ⟨hx', hy, hsp⟩
  · exact op_ownI (rc := some (.ref fr)) (by rw [e3]; exact h1) (by rw [e3]; exact hfr) (.inr ⟨fr, rfl⟩) (by rw [e3]; exact ho1) (by rw [e3]; exact ho2) (by rw [e3]; exact hs1) (z'.ok G) hr (by rw [e3]; exact h2) hx pins s σ H x y v u Q I rx ry ⟨hx', hy, hsp⟩
theorem op_rev {op : Operator} {id : String} (c : CalS Z CX k C (dunderR op.info.2) ps sp) (N : NumF Z.K C op.info.2) (hfl : fillsNumberSlot (.type "int") op.info.2 = pure true) (sl : Slot "int" (PySem.dunder op.info.2) id)
    (hd : ∀ {s : Shared} {x C dx : Addr} {t : Tok} {i : Int} {Q : Value → Shared → Prop}, s.heap.get? x = some (instObj C dx) → Q .notImplemented s → wpAny (model X.prog X.w) X.A (call (.builtin id) [.int i t, .ref x]) Q X.xe s)
    (hr : Room k X.A) (hx : Passes CX X E) (z : InZ Z X := by exact ⟨rfl, rfl, rfl, rfl, rfl⟩) : OpR X (binaryOp op) (rRefI C sp E) := by
  obtain ⟨f, fd, G, h1, h2⟩ := c
  obtain ⟨⟨fl, hfl'⟩, _, _, _, hs1, hs2⟩ := N
  have z' := z
  obtain ⟨e1, e2, e3, e4, e5⟩ := z
  exact op_refI (f' := fl) (by rw [e3]; exact h1) (by rw [e3]; exact hfl') (by rw [e3]; exact hs2) hfl sl hd (z'.ok G) hr (by rw [e3]; exact h2) hx
theorem op_radd (c : CalS Z CX k C "__radd__" ps sp) (N : NumF Z.K C "add") (hr : Room k X.A) (hx : Passes CX X E) (z : InZ Z X := by exact ⟨rfl, rfl, rfl, rfl, rfl⟩) : OpR X (binaryOp .Add) (rRefI C sp E) :=
  op_rev (op := .Add) c N F.fills_int_add F.slot_int_add (fun h q => dec_add h q) hr hx z
theorem op_rsub (c : CalS Z CX k C "__rsub__" ps sp) (N : NumF Z.K C "sub") (hr : Room k X.A) (hx : Passes CX X E) (z : InZ Z X := by exact ⟨rfl, rfl, rfl, rfl, rfl⟩) : OpR X (binaryOp .Sub) (rRefI C sp E) :=
  op_rev (op := .Sub) c N F.fills_int_sub F.slot_int_sub (fun h q => dec_sub h q) hr hx z
theorem op_rmul (c : CalS Z CX k C "__rmul__" ps sp) (N : NumF Z.K C "mul") (hr : Room k X.A) (hx : Passes CX X E) (z : InZ Z X := by exact ⟨rfl, rfl, rfl, rfl, rfl⟩) : OpR X (binaryOp .Mult) (rRefI C sp E) :=
  op_rev (op := .Mult) c N F.fills_int_mul F.slot_int_mul (fun h q => dec_mul h q) hr hx z
theorem un_cal (c : CalS Z CX k C "__neg__" ps sp) (hr : Room k X.A) (hx : Passes CX X E) (z : InZ Z X := by exact ⟨rfl, rfl, rfl, rfl, rfl⟩) : UnR X (unaryOp .USub) (rUOwn C sp E) := by
  obtain ⟨f, fd, G, h1, h2⟩ := c
  have z' := z
  obtain ⟨e1, e2, e3, e4, e5⟩ := z
  exact un_own (by rw [e3]; exact h1) (z'.ok G) hr (by rw [e3]; exact h2) hx
theorem abs_cal (c : CalS Z CX k C "__abs__" ps sp) (hr : Room (k + 1) X.A) (hx : Passes CX X E) (z : InZ Z X := by exact ⟨rfl, rfl, rfl, rfl, rfl⟩) : CallR X (.builtin "abs") (fun xs H Q => ∃ x, xs = [x] ∧ InsC C H x ∧ sp [x] H Q E) := by
  obtain ⟨f, fd, G, h1, h2⟩ := c
  have z' := z
  obtain ⟨e1, e2, e3, e4, e5⟩ := z
  exact call_absO (by rw [e3]; exact h1) (z'.ok G) hr (by rw [e3]; exact h2) hx
end
/-! ### tests -/
theorem iteD {c A B : Prop} [Decidable c] (h1 : c → A) (h2 : ¬ c → B) : if decide c = true then A else B := by
  by_cases h : c
  · rw [decide_eq_true h]; exact iteT (h1 h)
  · rw [decide_eq_false h]; exact iteF (h2 h)
theorem iteND {c A B : Prop} [Decidable c] (h1 : ¬ c → A) (h2 : c → B) : if (!decide c) = true then A else B := by
  by_cases h : c
  · rw [decide_eq_true h]; exact iteF (h2 h)
  · rw [decide_eq_false h]; exact iteT (h1 h)
theorem iteB {b : Bool} {A B : Prop} (h1 : b = true → A) (h2 : b = false → B) : if b = true then A else B := by
  cases b with
  | true => exact iteT (h1 rfl)
  | false => exact iteF (h2 rfl)
/-! ### short words for built-ins -/
section
variable {X : Cx} {e : Expr} {te : TE} {p pos : Pos}
/-- int(e) of an int -/
def rInt1 : List V → Hp → VK → Prop := fun xs H Q => ∃ i, xs = [.int i] ∧ Q (.int i) H
theorem call_intI : CallR X (.type "int") rInt1 := by
  intro pins s σ H xs us Q I r h
  exact call_int1 pins s σ H xs us Q I r (.inl h)
theorem pe_int1 (hg : Gl X "int") (hm : X.mg "int" = none) (he : PE X e te) (hs : starEach (e :: []) X.env = (false, eval e X.env) :: starEach [] X.env := by rfl) (hpl : (backTo pos (starEach [] X.env)).any (·.1) = false := by rfl) : PE X (.Call (.Name "int" p) [e] [] pos) (tCB rInt1 (tCons te tNil)) :=
  pe_callTy call_intI hg hm (by decide +kernel) (pa_cons he pa_nil hs) (by decide) (by decide) hs hpl
end
/-! ### from what stands behind the top -/
section
variable {Z : Cz} {CX : CXT} {k : Nat} {C : Addr} {ps : List Str} {sp : Sp} {dvs : List V} {x m nm qual : Str} {st : Stmt}
theorem Cal.mono {j : Nat} (c : Cal Z CX k x ps dvs sp) (h : k ≤ j) : Cal Z CX j x ps dvs sp := by
  obtain ⟨f, fd, ds, G, h1⟩ := c
  exact ⟨f, fd, ds, G.mono h, h1⟩
theorem CalM.mono {j : Nat} (c : CalM Z CX k C x ps dvs sp) (h : k ≤ j) : CalM Z CX j C x ps dvs sp := by
  obtain ⟨f, fd, ds, G, h1⟩ := c
  exact ⟨f, fd, ds, G.mono h, h1⟩
theorem CalS.mono {j : Nat} (c : CalS Z CX k C x ps sp) (h : k ≤ j) : CalS Z CX j C x ps sp := by
  obtain ⟨f, fd, G, h1⟩ := c
  exact ⟨f, fd, G.mono h, h1⟩
end
end Ps

/-! Shares: the promises of the defs of shares.py where nothing is raised. -/
namespace Ps
open PySem PySem.Spec PyProof.Rows PySem.W L2

/-! ### floor division by any divisor but 0, below 2 ^ 9000 -/
def CDivG (_ j : Int) : Prop := j ≠ 0 ∧ j.natAbs.log2 < 9000
theorem op_fdivG {X : Cx} : OpR X (binaryOp .FloorDiv) (rI CDivG fun i j => .int (i.fdiv j)) := opI fun i j _ _ _ _ _ hc q => floordiv_int hc.1 q (.inl (PyProof.noPylong_of_log2 hc.2))
theorem divG {i j : Int} {b : Nat} (h : j ≠ 0) (hb : j.natAbs < 2 ^ b) (h0 : 0 < b) (h9 : b ≤ 9000) : CDivG i j := ⟨h, Nat.lt_of_lt_of_le (PySem.Flt.log2_lt_of h0 hb) h9⟩

/-- the name of a built-in class -/
theorem pe_ty {X : Cx} {x : Str} {pos : Pos} (T : String) (hg : Gl X x) (hm : X.mg x = none) (hv : bootBuiltins x = some (.type T)) (hn : x ≠ "__name__" := by decide) (hd : (x == ("__debug__" : Str)) = false := by decide) : PE X (.Name x pos) (tC (.ty T)) := pe_bltn hg hm hv rfl hn hd

/-! ### the data -/
def shF (t u : Int) : List (Str × V) := [("own_top", .int t), ("own_under", .int u)]
/-- v is a share t / u -/
def Sh (C : Addr) (H : Hp) (v : V) (q : Int × Int) : Prop := ∃ a dx, v = .ref a ∧ H a = some (.ins C dx (shF q.1 q.2))
theorem Sh.mono {C : Addr} {H H' : Hp} {v : V} {q : Int × Int} (e : Same H H') (h : Sh C H v q) : Sh C H' v q := by
  obtain ⟨a, dx, hv, h⟩ := h
  exact ⟨a, dx, hv, e _ _ h⟩
theorem Sh.ins {C : Addr} {H : Hp} {v : V} {q : Int × Int} (h : Sh C H v q) : InsC C H v := by
  obtain ⟨a, dx, hv, h⟩ := h
  exact ⟨a, dx, _, hv, h⟩
theorem shF_top (t u : Int) : (shF t u).lookup ("own_top" : Str) = some (.int t) := rfl
theorem shF_under (t u : Int) : (shF t u).lookup ("own_under" : Str) = some (.int u) := by
  unfold shF
  rw [List.lookup_cons]
  rfl

/-- a number: a share or an int -/
def Nb (C : Addr) (H : Hp) (v : V) (q : Int × Int) : Prop := Sh C H v q ∨ ∃ i, v = .int i ∧ q = (i, 1)
theorem Nb.mono {C : Addr} {H H' : Hp} {v : V} {q : Int × Int} (e : Same H H') (h : Nb C H v q) : Nb C H' v q := by
  rcases h with h | h
  · exact .inl (h.mono e)
  · exact .inr h
theorem Nb.num {C : Addr} {H : Hp} {v : V} {q : Int × Int} (h : Nb C H v q) : InsC C H v ∨ ∃ i, v = .int i := by
  rcases h with h | ⟨i, h, _⟩
  · exact .inl h.ins
  · exact .inr ⟨i, h⟩
/-- sizes: both parts below 2 ^ n, the under not 0 -/
structure Sz (n : Nat) (q : Int × Int) : Prop where
  ne : q.2 ≠ 0
  t : q.1.natAbs < 2 ^ n
  u : q.2.natAbs < 2 ^ n

/-- what stands at the top of the text, as far as shares go -/
structure ShT (Z : Cz) (C : Addr) : Prop where
  cl : Cls Z.K C
  nT : NoAttr Z.K C "own_top"
  nU : NoAttr Z.K C "own_under"
  mgC : Z.mg "Share" = some (.ref C)
  isi : Z.mg "isinstance" = none
  int : Z.mg "int" = none
  bool : Z.mg "bool" = none
  abs : Z.mg "abs" = none
  ha : findIn Z.K (.ref C) "__class__" = some (some (.builtin "object.__class__"))
  hn : specialIn Z.K (.builtin "object.__class__") "__get__" = some (some (.builtin "getset_descriptor.__get__"))
  htk : takesIn Z.K (.builtin "object.__class__") = some true
  hm : mroIn Z.K C (.type "object") = some true
  kCC : kitOne Z.K (.ref C) (.ref C) = some true
  kCI : kitOne Z.K (.ref C) (.type "int") = some false
  kIC : kitOne Z.K (.type "int") (.ref C) = some false
  kTC : ∀ t ∈ ([.type "bool", .type "str", .type "NoneType", .type "list", .type "tuple", .type "dict"] : List Value), kitOne Z.K t (.ref C) = some false
theorem ShT.ty {Z : Cz} {C : Addr} (T : ShT Z C) {H : Hp} {a dx : Addr} {fs : List (Str × V)} (h : H a = some (.ins C dx fs)) : TyX Z.K H (.ref a) (.ref C) := .base (.ins h T.cl T.ha T.hn T.htk T.hm)

section
variable {Z : Cz}

/-- is_integer -/
def spIsInt (K : Frag) : Sp := fun vs H Q _ => ∃ v t, vs = [v] ∧ TyX K H v t ∧ ((t = .type "int" ∧ Q (.bl true) H) ∨ (t = .type "bool" ∧ Q (.bl false) H) ∨ (kitOne K t (.type "int") = some false ∧ Q (.bl false) H))
theorem ok_is_integer {f C : Addr} {fd : FuncData} (F : Fun Z.K "is_integer" "is_integer" s_is_integer f fd) (T : ShT Z C) : Z.ok CX0 1 f fd ["value"] (spIsInt Z.K) := by
  refine F.ok sc_is_integer (fun vs H Q E h => ?_) (fun cdv A outer s H vs Q E hr h => ?_)
  · obtain ⟨v, t, rfl, _⟩ := h
    rfl
  · obtain ⟨v, t, rfl, ty, h⟩ := h
    refine ⟨_, pss_one (ps_ret (pe_and (pe_callB call_isi (by rfl) T.isi (by decide +kernel) (pa_cons (pv 0) (pa_cons (pe_ty "int" (by rfl) T.int (by decide +kernel)) pa_nil)))
      (pe_one (pe_not (pe_callB call_isi (by rfl) T.isi (by decide +kernel) (pa_cons (pv 0) (pa_cons (pe_ty "bool" (by rfl) T.bool (by decide +kernel)) pa_nil))))))), ?_⟩
    rcases h with ⟨rfl, q⟩ | ⟨rfl, q⟩ | ⟨e, q⟩
    · refine ⟨_, rfl, _, _, _, _, true, rfl, .ty "int", ty, kit_ty (by decide +kernel), _, rfl, iteT ?_⟩
      exact ⟨_, rfl, _, _, _, _, false, rfl, .ty "bool", ty, kit_ty (by decide +kernel), _, rfl, q⟩
    · refine ⟨_, rfl, _, _, _, _, true, rfl, .ty "int", ty, kit_ty (by decide +kernel), _, rfl, iteT ?_⟩
      exact ⟨_, rfl, _, _, _, _, true, rfl, .ty "bool", ty, kit_ty (by decide +kernel), _, rfl, q⟩
    · exact ⟨_, rfl, _, _, _, _, false, rfl, .ty "int", ty, e, _, rfl, iteF q⟩

/-- common: the greatest common divisor -/
def spCommon : Sp := fun vs H Q _ => ∃ a b : Int, vs = [.int a, .int b] ∧ Q (.int (Int.gcd a b)) H
/-- Share.__init__ -/
def spShInit (C : Addr) : Sp := fun vs H Q _ => ∃ (p dx : Addr) (t u : Int), vs = [.ref p, .int t, .int u] ∧ H p = some (.ins C dx []) ∧ u ≠ 0 ∧ u.natAbs < 2 ^ 9000 ∧
  ∀ H' : Hp, (∀ b, b ≠ p → H' b = H b) → H' p = some (.ins C dx (shF (low t u).1 (low t u).2)) → Q .non H'
end
end Ps

/-! Shares: their operators, where nothing is raised. -/
namespace Ps
open PySem PySem.Spec PyProof.Rows PySem.W L2

theorem Same.upd {H : Hp} {p : Addr} {o : HO} (h : H p = none) : Same H (L2.upd H p o) := fun b u e => by
  rw [upd_ne (ne_of_none e h)]
  exact e
/-- Share(t, u): what its reading asks -/
theorem mk_sh {C : Addr} {H : Hp} {Q : VK} {E : XK} {t u : Int} (hu : u ≠ 0) (hb : u.natAbs < 2 ^ 9000) (k : ∀ v H', Same H H' → Sh C H' v (low t u) → Q v H') :
    ∀ x dx, H x = none → H dx = none → dx ≠ x → spShInit C [.ref x, .int t, .int u] (upd (upd H dx (.own x)) x (.ins C dx [])) (fun v H2 => v = .non ∧ Q (.ref x) H2) E := by
  intro x dx hx hdx hne
  refine ⟨x, dx, t, u, rfl, upd_same, hu, hb, fun H' h1 h2 => ⟨rfl, ?_⟩⟩
  refine k _ H' (fun b o e => ?_) ⟨x, dx, rfl, h2⟩
  rw [h1 b (ne_of_none e hx), upd_ne (ne_of_none e hx), upd_ne (ne_of_none e hdx)]
  exact e

/-- what the shares' defs promise one another -/
abbrev CShare (Z : Cz) (C : Addr) : Prop := CalC Z CX0 2 C "Share" ["self", "top", "under"] [] (spShInit C)
abbrev CShare1 (Z : Cz) (C : Addr) : Prop := CalC Z CX0 2 C "Share" ["self", "top", "under"] [.int 1] (spShInit C)
/-- from a number a share -/
def spNum (C : Addr) : Sp := fun vs H Q _ => ∃ v q, vs = [v] ∧ Nb C H v q ∧ ∀ v' H', Same H H' → Sh C H' v' q → Q v' H'
abbrev CNum (Z : Cz) (C : Addr) : Prop := Cal Z CX0 4 "share_of_number" ["value"] [] (spNum C)
/-- two numbers to a share -/
def spBin (C : Addr) (n : Nat) (g : Int × Int → Int × Int → Int × Int) : Sp := fun vs H Q _ => ∃ x y q r, vs = [x, y] ∧ Sh C H x q ∧ Nb C H y r ∧ Sz n q ∧ Sz n r ∧ ∀ v H', Same H H' → Sh C H' v (g q r) → Q v H'
def spUn (C : Addr) (n : Nat) (g : Int × Int → Int × Int) : Sp := fun vs H Q _ => ∃ x q, vs = [x] ∧ Sh C H x q ∧ Sz n q ∧ ∀ v H', Same H H' → Sh C H' v (g q) → Q v H'
def gAdd (q r : Int × Int) : Int × Int := low (q.1 * r.2 + r.1 * q.2) (q.2 * r.2)
def gMul (q r : Int × Int) : Int × Int := low (q.1 * r.1) (q.2 * r.2)
def gNeg (q : Int × Int) : Int × Int := low (-q.1) q.2
def gAbs (q : Int × Int) : Int × Int := low (iabs q.1) q.2

theorem lt_mul {i j : Int} (hi : i.natAbs < 2 ^ 4000) (hj : j.natAbs < 2 ^ 4000) : CMulW i j := wide_mul hi hj (by decide) (by decide) (by decide)
theorem mul_lt {i j : Int} (hi : i.natAbs < 2 ^ 4000) (hj : j.natAbs < 2 ^ 4000) : (i * j).natAbs < 2 ^ 9000 :=
  Nat.lt_of_lt_of_le (wide_lt hi hj) (Nat.pow_le_pow_right (by decide) (by decide))
theorem lt_up {i : Int} {m n : Nat} (h : i.natAbs < 2 ^ m) (hm : m ≤ n) : i.natAbs < 2 ^ n := Nat.lt_of_lt_of_le h (Nat.pow_le_pow_right (by decide) hm)

section
variable {Z : Cz} {f C : Addr} {fd : FuncData}
def gSub (q r : Int × Int) : Int × Int := gAdd q (gNeg r)
def gBy (q r : Int × Int) : Int × Int := low (q.1 * r.2) (q.2 * r.1)
theorem Sz.neg {n : Nat} {q : Int × Int} (h : Sz n q) : Sz n (gNeg q) := by
  refine ⟨Int.ne_of_gt (low_pos h.ne), Nat.lt_of_le_of_lt (low_le1 h.ne) ?_, Nat.lt_of_le_of_lt (low_le2 h.ne) h.u⟩
  rw [Int.natAbs_neg]
  exact h.t
theorem Sz.up {m n : Nat} {q : Int × Int} (h : Sz m q) (hm : m ≤ n) : Sz n q := ⟨h.ne, lt_up h.t hm, lt_up h.u hm⟩
abbrev CAdd (Z : Cz) (C : Addr) : Prop := CalS Z CX0 5 C "__add__" ["self", "other"] (spBin C 4000 gAdd)
abbrev CMul (Z : Cz) (C : Addr) : Prop := CalS Z CX0 5 C "__mul__" ["self", "other"] (spBin C 4000 gMul)
abbrev CNeg (Z : Cz) (C : Addr) : Prop := CalS Z CX0 4 C "__neg__" ["self"] (spUn C 9000 gNeg)
/-- by: the other is not 0 -/
def spBy (C : Addr) : Sp := fun vs H Q _ => ∃ x y q r, vs = [x, y] ∧ Sh C H x q ∧ Nb C H y r ∧ Sz 4000 q ∧ Sz 4000 r ∧ r.1 ≠ 0 ∧ ∀ v H', Same H H' → Sh C H' v (gBy q r) → Q v H'
/-- a field, or what is reckoned of a share -/
def spGet (C : Addr) (n : Nat) (g : Int × Int → V) : Sp := fun vs H Q _ => ∃ x q, vs = [x] ∧ Sh C H x q ∧ Sz n q ∧ Q (g q) H
end
end Ps

/-! The law's own draws: numbers within bounds. -/
namespace Ps
open PySem PySem.Spec PyProof.Rows PySem.W L2

/-- built-in names that the law uses -/
structure DrT (Z : Cz) : Prop where
  int : Z.mg "int" = none
  len : Z.mg "len" = none
  range : Z.mg "range" = none
  max : Z.mg "max" = none
  min : Z.mg "min" = none
def Below (ms ns : List Int) : Prop := ms.length = ns.length ∧ ∀ (i : Nat) (m n : Int), ms[i]? = some m → ns[i]? = some n → 0 ≤ m ∧ m < n
theorem Below.nil : Below [] [] := ⟨rfl, fun i m n h _ => by simp at h⟩
theorem Below.snoc {ms ns : List Int} {m n : Int} (h : Below ms ns) (h0 : 0 ≤ m) (h1 : m < n) : Below (ms ++ [m]) (ns ++ [n]) := by
  refine ⟨by rw [List.length_append, List.length_append, h.1]; rfl, fun i a b ha hb => ?_⟩
  by_cases hi : i < ms.length
  · rw [List.getElem?_append_left hi] at ha
    rw [List.getElem?_append_left (by rw [← h.1]; exact hi)] at hb
    exact h.2 i a b ha hb
  · rw [List.getElem?_append_right (by omega)] at ha
    rw [List.getElem?_append_right (by rw [← h.1]; omega)] at hb
    rw [← h.1] at hb
    cases e : i - ms.length with
    | zero =>
      rw [e] at ha hb
      simp at ha hb
      subst ha; subst hb
      exact ⟨h0, h1⟩
    | succ j =>
      rw [e] at ha
      simp at ha
theorem take_snoc {ns : List Int} {i : Nat} {n : Int} (h : ns[i]? = some n) : ns.take (i + 1) = ns.take i ++ [n] := by
  rw [List.take_succ, h]
  rfl
/-- sizes that may be drawn by -/
structure Sizes (ns : List Int) : Prop where
  len : ns.length ≤ 10000
  pos : ∀ n ∈ ns, 0 < n ∧ n < 1073741824
def spNumbers (K : Frag) : Sp := fun vs H Q _ => ∃ (c s : Int) (a : Addr) (ns : List Int), vs = [.int c, .int s, .ref a] ∧ SqL K H a (ns.map V.int) ∧ Sizes ns ∧ 0 ≤ s ∧ s ≤ 1000 ∧
  ∀ p H' ms, Same H H' → H p = none → H' p = some (.lst (ms.map V.int)) → Below ms ns → Q (.ref p) H'
theorem small1000' {n : Nat} (h : n ≤ 100000) : n < sizeLine := Nat.lt_of_le_of_lt h (by decide)
theorem pow_ok {i j : Int} (h0 : 0 ≤ j) (h1 : j ≤ 1000000) (h2 : i.natAbs < 2 ^ 64) : L2.CPow i j := ⟨h0, h1, h2⟩
section
variable {Z : Cz} {f : Addr} {fd : FuncData}
theorem ok_numbers (F : Fun Z.K "_law_numbers" "_law_numbers" s_lw_numbers f fd) (T : DrT Z) : Z.ok CX0 1 f fd ["_law_cell", "_law_salt", "_law_sizes"] (spNumbers Z.K) := by
  refine F.ok sc_lw_numbers (fun vs H Q E h => ?_) (fun cdv A outer s H vs Q E hr h => ?_)
  · obtain ⟨c, s, a, ns, rfl, _⟩ := h
    rfl
  · obtain ⟨c, sa, a, ns, rfl, hS, hz, hs0, hs1, k⟩ := h
    have nd := sc_lw_numbers.nd
    refine ⟨_, (pss_cons (ps_set (i := 3) sc_lw_numbers.nd rfl (Or.inl rfl) (pe_callB (call_max2 rfl) (by rfl) T.max (by decide +kernel) (pa_cons (pe_int1 (by rfl) T.int (pv 0)) (pa_cons (pe_int1 (by rfl) T.int (pe_op op_sub (pe_un un_neg pe_int) (pv 0))) pa_nil))))
      (pss_cons (ps_set (i := 4) sc_lw_numbers.nd rfl (Or.inl rfl) (pv 3))
      (pss_cons (ps_set (i := 5) sc_lw_numbers.nd rfl (Or.inl rfl) (pe_lst pa_nil))
      (pss_cons (ps_for PassesOwn.never rfl (pi_range1 (by rfl) T.range (pa_cons (pe_callB call_len_seq (by rfl) T.len PySem.boot_len (pa_cons (pv 2) pa_nil)) pa_nil)) (pg_name (i := 6) sc_lw_numbers.nd rfl (Or.inl rfl))
      (pss_one (ps_if (PW.pt (pw_and (pt_cmpR op_ge (pv 3) (pe_op op_pow pe_int pe_int) (nomark _)) (pw_and1 (pt_cmpR op_gt (pv 4) pe_int (nomark _)))))
        (pss_cons (ps_expr (pe_bm PySem.F.plainAttrs_list PySem.F.slot_list_append PySem.F.type_list_append mt_append (pv 5) (pa_cons (pe_op op_mod (pe_int1 (by rfl) T.int (pv 4)) (pe_ix ix_list (pv 2) (pv 6) (fun _ _ => rfl))) pa_nil)))
          (pss_one (ps_set (i := 4) sc_lw_numbers.nd rfl (Or.inl rfl) (pe_op op_fdiv (pv 4) (pe_ix ix_list (pv 2) (pv 6) (fun _ _ => rfl))))))
        (pss_cons (ps_set (i := 7) sc_lw_numbers.nd rfl (Or.inl rfl) (pe_op op_pow (pe_op op_add (pe_op op_add (pe_op op_mod (pe_int1 (by rfl) T.int (pv 3)) pe_int) (pe_op op_mul pe_int (pv 1))) pe_int) pe_int))
          (pss_cons (ps_set (i := 7) sc_lw_numbers.nd rfl (Or.inl rfl) (pe_op op_mul (pe_op op_add (pe_op op_mod (pe_int1 (by rfl) T.int (pv 7)) pe_int) (pe_op op_mul pe_int (pe_op op_add (pv 6) pe_int))) (pe_op op_add (pv 6) pe_int)))
          (pss_cons (ps_set (i := 7) sc_lw_numbers.nd rfl (Or.inl rfl) (pe_op op_mod (pe_int1 (by rfl) T.int (pv 7)) pe_int))
          (pss_cons (ps_set (i := 7) sc_lw_numbers.nd rfl (Or.inl rfl) (pe_op op_mul (pe_op op_mod (pe_int1 (by rfl) T.int (pe_op op_pow (pv 7) pe_int)) pe_int) pe_int))
          (pss_cons (ps_set (i := 7) sc_lw_numbers.nd rfl (Or.inl rfl) (pe_op op_mod (pe_int1 (by rfl) T.int (pv 7)) pe_int))
          (pss_one (ps_expr (pe_bm PySem.F.plainAttrs_list PySem.F.slot_list_append PySem.F.type_list_append mt_append (pv 5) (pa_cons (pe_op op_mod (pe_int1 (by rfl) T.int (pe_op op_fdiv (pv 7) pe_int)) (pe_ix ix_list (pv 2) (pv 6) (fun _ _ => rfl))) pa_nil))))))))))))
      (pss_one (ps_ret (pv 5))))))), ?_⟩
    refine ⟨_, rfl, _, rfl, _, rfl, _, rfl, _, _, rfl, rfl, _, rfl, _, _, rfl, ?_⟩
    generalize (if (-1 - c : Int) > c then (-1 - c : Int) else c) = wh
    refine ⟨_, rfl, ?_⟩
    refine ⟨by decide, fun p hp => ?_⟩
    have e0 : Same H (upd H p (.lst [])) := fun b o e => by rw [upd_ne (ne_of_none e hp)]; exact e
    have hln : (ns.map V.int).length = ns.length := List.length_map ..
    have hl := hz.len
    refine ⟨_, rfl, a, _, rfl, .inl (e0.seq hS), _, rfl, by omega, by omega, for_range (lo := 0) (fun i σ H1 => ∃ (l : Int) (ms : List Int) (o k : Option V), σ = [some (.int c), some (.int sa), some (.ref a), some (.int wh), some (.int l), some (.ref p), k, o] ∧ Same H H1 ∧ H1 p = some (.lst (ms.map V.int)) ∧ Below ms (ns.take i))
      ⟨wh, [], none, none, rfl, e0, upd_same, Below.nil⟩ ?_ ?_⟩
    · rintro i σ H1 hi ⟨l, ms, o, k', rfl, e1, h1, hb⟩
      have hi' : i < ns.length := by omega
      obtain ⟨n, hn⟩ : ∃ n, ns[i]? = some n := ⟨ns[i], List.getElem?_eq_getElem hi'⟩
      have hnp := hz.pos n (List.mem_of_getElem? hn)
      have hat : atI (ns.map V.int) (0 + (i : Int)) = some (.int n) := by
        rw [Int.zero_add]
        exact atI_nat (by rw [List.getElem?_map, hn]; rfl)
      have hml : ms.length ≤ 10000 := by
        rw [hb.1, List.length_take]; omega
      have fin : ∀ (m l' : Int) (o' k2 : Option V), 0 ≤ m → m < n → ∃ (l : Int) (ms' : List Int) (o k : Option V), [some (V.int c), some (.int sa), some (.ref a), some (.int wh), some (.int l'), some (.ref p), k2, o'] = [some (.int c), some (.int sa), some (.ref a), some (.int wh), some (.int l), some (.ref p), k, o] ∧
          Same H (upd H1 p (.lst (ms.map V.int ++ [.int m]))) ∧ (upd H1 p (.lst (ms.map V.int ++ [.int m]))) p = some (.lst (ms'.map V.int)) ∧ Below ms' (ns.take (i + 1)) := by
        intro m l' o' k2 h0 h2
        refine ⟨l', ms ++ [m], o', k2, rfl, fun b o e => ?_, ?_, ?_⟩
        · rw [upd_ne (ne_of_none e hp)]
          exact e1 b o e
        · rw [upd_same, List.map_append]
          rfl
        · rw [take_snoc hn]
          exact hb.snoc h0 h2
      have hml' : (ms.map V.int).length < sizeLine := by rw [List.length_map]; exact small1000' (by omega)
      have hS1 := e1.seq hS
      have hm2 : ∀ z : Int, 0 ≤ z % n ∧ z % n < n := fun z => ⟨Int.emod_nonneg _ (by omega), Int.emod_lt_of_pos _ hnp.1⟩
      refine ⟨_, rfl, _, _, rfl, rfl, pow_ok (by decide) (by decide) (by decide), _, _, rfl, rfl, _, rfl, iteD (fun _ => ?_) (fun _ => ?_)⟩
      · refine ⟨_, rfl, _, _, rfl, rfl, _, rfl, iteD (fun _ => ?_) (fun _ => ?_)⟩
        · refine ⟨_, rfl, .inl ⟨rfl, _, SqL.of h1⟩, _, rfl, _, rfl, _, rfl, _, rfl, a, _, _, _, rfl, rfl, hS1, hat, _, _, rfl, rfl, hnp.1, p, _, _, rfl, rfl, h1, hml', ?_⟩
          have hS2 : SqL Z.K (upd H1 p (.lst (ms.map V.int ++ [.int (l % n)]))) a (ns.map V.int) := by
            obtain ⟨_, _, _, _, _, e2, _, _⟩ := fin (l % n) l o none (hm2 l).1 (hm2 l).2
            exact e2.seq hS
          refine ⟨_, rfl, _, rfl, _, rfl, a, _, _, _, rfl, rfl, hS2, hat, _, _, rfl, rfl, ⟨hnp.1, hnp.2⟩, ?_⟩
          exact fin _ _ _ _ (hm2 l).1 (hm2 l).2
        · refine ⟨_, rfl, _, rfl, _, _, rfl, rfl, (by show (0 : Int) < 2147483629; decide), _, rfl, _, _, rfl, rfl, .inl ⟨by decide, by decide⟩, _, _, rfl, rfl, _, _, rfl, rfl, _, _, rfl, rfl, pow_ok (by decide) (by decide) (by omega), ?_⟩
          refine ⟨_, rfl, _, rfl, _, _, rfl, rfl, (by show (0 : Int) < 2147483647; decide), _, rfl, _, _, rfl, rfl, _, _, rfl, rfl, .inl ⟨by decide, by decide⟩, _, _, rfl, rfl, _, rfl, _, _, rfl, rfl, _, _, rfl, rfl, .inr ⟨by omega, by omega⟩, ?_⟩
          refine ⟨_, rfl, _, rfl, _, _, rfl, rfl, (by show (0 : Int) < 2147483629; decide), ?_⟩
          refine ⟨_, rfl, _, _, rfl, rfl, pow_ok (by decide) (by decide) (by omega), _, rfl, _, _, rfl, rfl, (by show (0 : Int) < 2147483647; decide), _, _, rfl, rfl, .inr ⟨by decide, by decide⟩, ?_⟩
          refine ⟨_, rfl, _, rfl, _, _, rfl, rfl, (by show (0 : Int) < 2147483629; decide), ?_⟩
          refine ⟨_, rfl, .inl ⟨rfl, _, SqL.of h1⟩, _, rfl, _, _, rfl, rfl, ⟨by decide, by decide⟩, _, rfl, _, rfl, _, rfl, a, _, _, _, rfl, rfl, hS1, hat, _, _, rfl, rfl, hnp.1, p, _, _, rfl, rfl, h1, hml', ?_⟩
          exact fin _ _ _ _ (hm2 _).1 (hm2 _).2
      · refine ⟨_, rfl, _, rfl, _, _, rfl, rfl, (by show (0 : Int) < 2147483629; decide), _, rfl, _, _, rfl, rfl, .inl ⟨by decide, by decide⟩, _, _, rfl, rfl, _, _, rfl, rfl, _, _, rfl, rfl, pow_ok (by decide) (by decide) (by omega), ?_⟩
        refine ⟨_, rfl, _, rfl, _, _, rfl, rfl, (by show (0 : Int) < 2147483647; decide), _, rfl, _, _, rfl, rfl, _, _, rfl, rfl, .inl ⟨by decide, by decide⟩, _, _, rfl, rfl, _, rfl, _, _, rfl, rfl, _, _, rfl, rfl, .inr ⟨by omega, by omega⟩, ?_⟩
        refine ⟨_, rfl, _, rfl, _, _, rfl, rfl, (by show (0 : Int) < 2147483629; decide), ?_⟩
        refine ⟨_, rfl, _, _, rfl, rfl, pow_ok (by decide) (by decide) (by omega), _, rfl, _, _, rfl, rfl, (by show (0 : Int) < 2147483647; decide), _, _, rfl, rfl, .inr ⟨by decide, by decide⟩, ?_⟩
        refine ⟨_, rfl, _, rfl, _, _, rfl, rfl, (by show (0 : Int) < 2147483629; decide), ?_⟩
        refine ⟨_, rfl, .inl ⟨rfl, _, SqL.of h1⟩, _, rfl, _, _, rfl, rfl, ⟨by decide, by decide⟩, _, rfl, _, rfl, _, rfl, a, _, _, _, rfl, rfl, hS1, hat, _, _, rfl, rfl, hnp.1, p, _, _, rfl, rfl, h1, hml', ?_⟩
        exact fin _ _ _ _ (hm2 _).1 (hm2 _).2
    · rintro σ H1 ⟨l, ms, o, k', rfl, e1, h1, hb⟩
      refine ⟨_, rfl, k p H1 ms e1 hp h1 ?_⟩
      rw [hln, Int.toNat_natCast, List.take_length] at hb
      exact hb
/-- a pool at p: its numbers at q, the place of the next one -/
structure Pool (H : Hp) (p q : Addr) (ms : List Int) (i : Nat) : Prop where
  at_ : H p = some (.lst [.ref q, .int i])
  nums : H q = some (.lst (ms.map V.int))
  len : ms.length ≤ 10000
  few : i ≤ 100000
theorem Pool.ne {H : Hp} {p q : Addr} {ms : List Int} {i : Nat} (h : Pool H p q ms i) : p ≠ q := ne_of h.at_ h.nums (by
  intro z
  have z := HO.lst.inj z
  cases ms with
  | nil => cases z
  | cons m r =>
    rw [List.map_cons] at z
    cases (List.cons.inj z).1)
theorem rep420 (k : Nat) : (List.replicate k [V.int 420]).flatten = (List.replicate k (420 : Int)).map V.int := by
  induction k with
  | zero => rfl
  | succ k ih => rw [List.replicate_succ, List.flatten_cons, ih, List.replicate_succ]; rfl
def spPool : Sp := fun vs H Q _ => ∃ (c s n : Int), vs = [.int c, .int s, .int n] ∧ 0 ≤ s ∧ s ≤ 1000 ∧ 0 ≤ n ∧ n ≤ 10000 ∧
  ∀ p q H' ms, Same H H' → H p = none → H q = none → Pool H' p q ms 0 → Q (.ref p) H'
theorem ok_pool (F : Fun Z.K "_law_pool" "_law_pool" s_lw_pool f fd) (T : DrT Z) (c_lw_numbers : Cal Z CX0 1 "_law_numbers" ["_law_cell", "_law_salt", "_law_sizes"] [] (spNumbers Z.K)) : Z.ok CX0 2 f fd ["_law_cell", "_law_salt", "_law_many"] spPool := by
  refine F.ok sc_lw_pool (fun vs H Q E h => ?_) (fun cdv A outer s H vs Q E hr h => ?_)
  · obtain ⟨c, s, n, rfl, _⟩ := h
    rfl
  · obtain ⟨c, sa, n, rfl, hs0, hs1, hn0, hn1, k⟩ := h
    refine ⟨_, (pss_one (ps_ret (pe_lst (pa_cons (pe_cal c_lw_numbers (hr.mono (by decide)) (by rfl) pass0 (pa_cons (pv 0) (pa_cons (pv 1) (pa_cons (pe_op op_rep (pe_lst (pa_cons pe_int pa_nil)) (pv 2)) pa_nil)))) (pa_cons pe_int pa_nil))))), ?_⟩
    refine ⟨_, rfl, _, rfl, by decide, fun l hl => ?_⟩
    refine ⟨_, rfl, l, n, _, rfl, rfl, upd_same, by omega, by omega, ?_, fun l2 hl2 => ?_⟩
    · show 1 * n.toNat ≤ sizeLine
      rw [Nat.one_mul]
      exact Nat.le_of_lt (small1000' (by omega))
    have e1 : Same H (upd (upd H l (.lst [.int 420])) l2 (.lst (List.replicate n.toNat [V.int 420]).flatten)) := fun b o e => by
      have := e
      rw [upd_ne, upd_ne (ne_of_none e hl)]
      · exact e
      · intro z
        subst z
        rw [upd_ne (ne_of_none e hl), e] at hl2
        cases hl2
    refine ⟨c, sa, l2, List.replicate n.toNat 420, rfl, SqL.of (by rw [upd_same, rep420]), ⟨?_, ?_⟩, hs0, hs1, fun q H2 ms e2 hq h2 hb => ?_⟩
    · rw [List.length_replicate]; omega
    · intro x hx
      rw [(List.mem_replicate.mp hx).2]
      decide
    have e3 := e1.trans e2
    refine ⟨Nat.le_of_lt (small1000' (show 2 ≤ 100000 by decide)), fun p hp => ?_⟩
    have hqn : H q = none := e1.free hq
    have hne : q ≠ p := ne_of_none h2 hp
    refine k p q _ ms (fun b o e => ?_) (e3.free hp) hqn ⟨upd_same, by rw [upd_ne hne]; exact h2, ?_, by decide⟩
    · rw [upd_ne (ne_of_none (e3 b o e) hp)]
      exact e3 b o e
    · rw [hb.1, List.length_replicate]; omega
/-- a draw -/
def spDraw : Sp := fun vs H Q _ => ∃ (p q : Addr) (ms : List Int) (i : Nat) (n : Int), vs = [.ref p, .int n] ∧ Pool H p q ms i ∧ 0 < n ∧ i < 100000 ∧
  ∀ r H', 0 ≤ r → r < n → (∀ b, b ≠ p → H' b = H b) → Pool H' p q ms (i + 1) → Q (.int r) H'
theorem ok_draw (F : Fun Z.K "_law_draw" "_law_draw" s_lw_draw f fd) (T : DrT Z) : Z.ok CX0 1 f fd ["_law_pool_here", "_law_many"] spDraw := by
  refine F.ok sc_lw_draw (fun vs H Q E h => ?_) (fun cdv A outer s H vs Q E hr h => ?_)
  · obtain ⟨p, q, ms, i, n, rfl, _⟩ := h
    rfl
  · obtain ⟨p, q, ms, i, n, rfl, hP, hn, hi, k⟩ := h
    refine ⟨_, (pss_cons (ps_set (i := 2) sc_lw_draw.nd rfl (Or.inl rfl) (pe_ix ix_list (pv 0) pe_int (fun _ _ => rfl)))
      (pss_cons (ps_asg (pe_op op_add (pv 2) pe_int) (pg_sub (pv 0) pe_int set_list))
      (pss_one (ps_ret (pe_ifExp (pt_cmpR op_lt (pv 2) (pe_callB call_len_seq (by rfl) T.len PySem.boot_len (pa_cons (pe_ix ix_list (pv 0) pe_int (fun _ _ => rfl)) pa_nil)) (nomark _)) (pe_op op_mod (pe_int1 (by rfl) T.int (pe_ix ix_list (pe_ix ix_list (pv 0) pe_int (fun _ _ => rfl)) (pv 2) (fun _ _ => rfl))) (pv 1)) pe_int))))), ?_⟩
    refine ⟨_, rfl, p, _, _, _, rfl, rfl, SqL.of hP.at_, rfl, ?_⟩
    refine ⟨_, rfl, _, _, rfl, rfl, _, rfl, p, _, _, 1, rfl, rfl, hP.at_, rfl, ?_⟩
    have hP2 : Pool (upd H p (.lst [.ref q, .int ((i : Int) + 1)])) p q ms (i + 1) := ⟨by rw [upd_same, show ((i + 1 : Nat) : Int) = (i : Int) + 1 by omega], by rw [upd_ne hP.ne.symm]; exact hP.nums, hP.len, hi⟩
    have hsame : ∀ b, b ≠ p → (upd H p (.lst [.ref q, .int ((i : Int) + 1)])) b = H b := fun b hb => upd_ne hb
    refine ⟨_, rfl, _, rfl, p, _, _, _, rfl, rfl, SqL.of upd_same, rfl, q, _, rfl, .inl (SqL.of hP2.nums), _, _, rfl, rfl, _, rfl, iteD (fun hlt => ?_) (fun hge => ?_)⟩
    · rw [List.length_map] at hlt
      have hlt' : i < ms.length := by omega
      refine ⟨_, rfl, p, _, _, _, rfl, rfl, SqL.of upd_same, rfl, _, rfl, q, _, _, V.int ms[i], rfl, rfl, SqL.of hP2.nums, ?_, _, rfl, _, rfl, _, _, rfl, rfl, hn, ?_⟩
      · exact atI_nat (by rw [List.getElem?_map, List.getElem?_eq_getElem hlt']; rfl)
      · exact k _ _ (Int.emod_nonneg _ (by omega)) (Int.emod_lt_of_pos _ hn) hsame hP2
    · exact k 0 _ (Int.le_refl 0) hn hsame hP2
/-- the pool of the script's k-th cell -/
def spOpened (K : Frag) : Sp := fun vs H Q _ => ∃ (a : Addr) (ns : List Int) (i : Nat) (n : Int), vs = [.ref a, .int i, .int n] ∧ SqL K H a (ns.map V.int) ∧ (i < ns.length ∨ (ns = [] ∧ i = 0)) ∧ i ≤ 1000 ∧ 0 ≤ n ∧ n ≤ 10000 ∧
  ∀ p q H' ms, Same H H' → H p = none → H q = none → Pool H' p q ms 0 → Q (.ref p) H'
theorem DpAll.ints {K : Frag} {H : Hp} : ∀ ns : List Int, DpAll K H (ns.map V.int) (ns.map PyData.int)
  | [] => .nil
  | n :: r => .cons (.int n) (DpAll.ints r)
theorem shaped_ints (ns : List Int) : SeqAt.shaped (.list (ns.map PyData.int)) = true := ke_shaped_ints ns
theorem ok_opened (F : Fun Z.K "_law_opened" "_law_opened" s_lw_opened f fd) (T : DrT Z) (c_lw_pool : Cal Z CX0 2 "_law_pool" ["_law_cell", "_law_salt", "_law_many"] [] spPool) : Z.ok CX0 3 f fd ["_law_script", "_law_k", "_law_many"] (spOpened Z.K) := by
  refine F.ok sc_lw_opened (fun vs H Q E h => ?_) (fun cdv A outer s H vs Q E hr h => ?_)
  · obtain ⟨a, ns, i, n, rfl, _⟩ := h
    rfl
  · obtain ⟨a, ns, i, n, rfl, hS, hi, hi2, hn0, hn1, k⟩ := h
    refine ⟨_, (pss_cons (ps_set (i := 3) sc_lw_opened.nd rfl (Or.inl rfl) (pe_ifExp (pt_cmpR (op_neD hr.units) (pv 0) (pe_lst pa_nil) (nomark _)) (pe_ix ix_list (pv 0) (pv 1) (fun _ _ => rfl)) pe_int))
      (pss_one (ps_ret (pe_cal c_lw_pool (hr.mono (by decide)) (by rfl) pass0 (pa_cons (pv 3) (pa_cons (pv 1) (pa_cons (pv 2) pa_nil))))))), ?_⟩
    refine ⟨_, rfl, by decide, fun l hl => ?_⟩
    have e1 : Same H (upd H l (.lst [])) := fun b o e => by rw [upd_ne (ne_of_none e hl)]; exact e
    refine ⟨_, _, .lst (e1.seq hS) (DpAll.ints ns), .lst (SqL.of upd_same) .nil, shaped_ints ns, rfl, _, rfl, ?_⟩
    have fin : ∀ c : Int, spPool [.int c, .int i, .int n] (upd H l (.lst [])) Q E0 := fun c =>
      ⟨c, i, n, rfl, by omega, by omega, hn0, hn1, fun p q H' ms e hp hq P => k p q H' ms (e1.trans e) (e1.free hp) (e1.free hq) P⟩
    cases ns with
    | nil =>
      refine iteF ?_
      exact ⟨_, rfl, _, rfl, _, rfl, fin 7⟩
    | cons x r =>
      refine iteT ?_
      have hlt : i < (x :: r).length := by
        rcases hi with h | h
        · exact h
        · cases h.1
      refine ⟨_, rfl, _, rfl, a, _, _, V.int (x :: r)[i], rfl, rfl, e1.seq hS, atI_nat (by rw [List.getElem?_map, List.getElem?_eq_getElem hlt]; rfl), _, rfl, _, rfl, _, rfl, fin _⟩
end
end Ps

/-! Own comparisons: an own instance on the left, anything on the right; an int on the left, an own instance on the right; != by ==; x op= y without an own in-place method. -/
namespace Ps
open PySem PySem.Spec PyProof.Rows PySem.W L2

section
variable {prog : Program} {w : World} {A : Around} {E : Value → Shared → Prop} {s : Shared} {K : Frag} {x C L f : Addr} {h₀ : Heap} {m : Str → Option Value} {ox : Obj} {od : Option Obj} {b tb : Value}

theorem ifBound_objNe {M : Model} {args : List Value} {Q : Option Value → Shared → Prop} (X : K.In s.heap) (I : InstAt s.heap x ox C od) (hs : findIn K (.ref C) "__ne__" = some (some (.builtin "object.__ne__")))
    (h : wpAny M A (call (.builtin "object.__ne__") (.ref x :: args)) (fun v => Q (some v)) E s) : wpAny M A (callSpecialIfBound? (.ref x) "__ne__" args) Q E s := by
  simp only [callSpecialIfBound?, bindSpecialIfBound?]
  refine wpAny_holding (wpAny_bind (wpAny_bind (wpAny_bind (I.type.here ((looks_findIn X hs).here ?_)))))
  refine wpAny_bind (wpAny_askSetting (wpAny_ite ?_))
  have fin : wpAny M A (call (.builtin "object.__ne__") ([.ref x] ++ args) >>= fun v => pure (some v)) Q E s := wpAny_bind (wpAny_mono h (fun v s' h' => wpAny_pure h') fun _ _ h' => h')
  split
  · exact wpAny_bind (wpAny_of_eq (F.cmp_object.ne.bind _) (wpAny_pure (by exact fin)))
  · exact wpAny_tryCatch (wpAny_bind (wpAny_of_eq (F.cmp_object.ne.bind _) (wpAny_pure (by exact fin))))
theorem objNe_entry {Q : Fin → Shared → Prop} (hu : A.units < cLine) (X : K.In s.heap) (I : InstAt s.heap x ox C od) (hs : findIn K (.ref C) "__eq__" = some (some (.ref f))) (hf : isFn K (.ref f) = true)
    (h : wpAny (model prog w) A (call (.ref f) [.ref x, b]) (fun v s' => ∃ r, v = .bool r ∧ Q (.done (.ret (.bool (!r)))) s') E s) : wpAny (model prog w) A (Builtin.«object.__ne__» ⟨[.ref x, b], []⟩) Q E s := by
  unfold Builtin.«object.__ne__»
  refine wpAny_bind (m := slotArgs "__ne__" 1 _) (wpAny_pure ?_)
  show wpAny _ _ (cRoomFor "comparison" [.ref x, b] >>= _) _ _ _
  refine wpAny_bind (wpAny_cRoomFor hu ?_)
  refine wpAny_bind (m := callSpecialIfBound? (.ref x) (Str.ofString "__eq__") [b]) (ifBound_K X I hs hf (wpAny_mono h (fun v s' hv => ?_) fun _ _ y => y))
  obtain ⟨r, rfl, hq⟩ := hv
  show wpAny _ _ (truthy (.bool r) >>= _) _ _ _
  exact wpAny_bind (wpAny_truthy_bool (wpAny_pure hq))
theorem tryNe {Q : Option Value → Shared → Prop} (hu : A.units + 1 < cLine) (X : K.In s.heap) (I : InstAt s.heap x ox C od) (hne : findIn K (.ref C) "__ne__" = some (some (.builtin "object.__ne__"))) (hm : mroIn K C (.type "object") = some true)
    (hs : findIn K (.ref C) "__eq__" = some (some (.ref f))) (hf : isFn K (.ref f) = true)
    (h : wpAny (model prog w) A.in1 (call (.ref f) [.ref x, b]) (fun v s' => ∃ r, v = .bool r ∧ Q (some (.bool (!r))) s') E s) : wpAny (model prog w) A (tryCompare (.ref x) "__ne__" b) Q E s := by
  unfold tryCompare
  refine wpAny_bind (ifBound_objNe X I hne ?_)
  refine wpAny_call (codeAny_call_builtin F.cmp_object.ne.plain F.cmpEntry_ne (check_slot F.cmpKind_ne F.cmpSplit_ne (I.type.andThen (looks_mroIn X hm)) (F.cmpArgs_ne _ _) ?_))
  refine objNe_entry (A := A.in1) hu X I hs hf (wpAny_mono h (fun v s' hv => ?_) fun _ _ e => e)
  obtain ⟨r, rfl, hq⟩ := hv
  exact ⟨r, rfl, wpAny_pure hq⟩
/-- x != b by the own == -/
theorem cmp_ne {Q : Value → Shared → Prop} (hu : A.units + 1 < cLine) (X : K.In s.heap) (I : InstAt s.heap x ox C od) (hb : Looks (model prog w) s.heap (typeOf b) tb) (hn : notFirst K C tb = true)
    (hne : findIn K (.ref C) "__ne__" = some (some (.builtin "object.__ne__"))) (hm : mroIn K C (.type "object") = some true) (hs : findIn K (.ref C) "__eq__" = some (some (.ref f))) (hf : isFn K (.ref f) = true)
    (h : wpAny (model prog w) A.in1 (call (.ref f) [.ref x, b]) (fun v s' => ∃ r, v = .bool r ∧ Q (.bool (!r)) s') E s) : wpAny (model prog w) A (richCompare .NotEq (.ref x) b) Q E s := by
  have one : wpAny (model prog w) A (tryCompare (.ref x) "__ne__" b) (fun r s' => ∃ v, r = some v ∧ Q v s') E s :=
    tryNe hu X I hne hm hs hf (wpAny_mono h (fun v s' hv => by obtain ⟨r, rfl, hq⟩ := hv; exact ⟨r, rfl, _, rfl, hq⟩) fun _ _ e => e)
  unfold richCompare
  simp only [oneThing_ref]
  rw [cmpInfo_NotEq]
  dsimp only
  refine wpAny_holding (wpAny_bind (wpAny_cRoomFor (Nat.lt_of_succ_lt hu) ?_))
  refine wpAny_bind (I.type.here (wpAny_bind (hb.here ?_)))
  split
  · rename_i q
    have e : subIn K tb (.ref C) = some false := by
      rcases Bool.or_eq_true_iff.mp hn with e | e
      · rw [beq_iff_eq.mp e] at q; simp at q
      · exact beq_iff_eq.mp e
    refine wpAny_bind ((looks_subIn X e).here ?_)
    simp only [Bool.false_eq_true, if_false]
    refine wpAny_bind (wpAny_mono one (fun r s' z => ?_) fun _ _ e => e)
    obtain ⟨v, rfl, hq⟩ := z
    exact wpAny_pure hq
  · refine wpAny_bind (wpAny_pure ?_)
    simp only [Bool.false_eq_true, if_false]
    refine wpAny_bind (wpAny_mono one (fun r s' z => ?_) fun _ _ e => e)
    obtain ⟨v, rfl, hq⟩ := z
    exact wpAny_pure hq
/-- an int on the left: it declines, the reflected method of the right is called -/
theorem cmp_R {op : CmpOp} {t : Tok} {i : Int} {Q : Value → Shared → Prop} (hu : A.units < cLine) (X : K.In s.heap) (I : InstAt s.heap x ox C od) (hsub : subIn K (.ref C) (.type "int") = some false)
    (hone : oneThing? op (.int i t) (.ref x) = none)
    (dec : wpAny (model prog w) A (tryCompare (.int i t) (cmpInfo op).2.1 (.ref x)) (fun r s' => r = none ∧ s' = s) E s)
    (h : wpAny (model prog w) A (tryCompare (.ref x) (cmpInfo op).2.2 (.int i t)) (fun r s' => ∃ v, r = some v ∧ Q v s') E s) : wpAny (model prog w) A (richCompare op (.int i t) (.ref x)) Q E s := by
  unfold richCompare
  rw [hone]
  dsimp only
  refine wpAny_holding (wpAny_bind (wpAny_cRoomFor hu ?_))
  have L1 : Looks (model prog w) s.heap (typeOf (.int i t)) (.type "int") := Looks.of_pure rfl
  refine wpAny_bind (L1.here (wpAny_bind (I.type.here ?_)))
  split
  · refine wpAny_bind ((looks_subIn X hsub).here ?_)
    simp only [Bool.false_eq_true, if_false]
    refine wpAny_bind (wpAny_mono dec (fun r s' z => ?_) fun _ _ e => e)
    obtain ⟨rfl, rfl⟩ := z
    simp only [Bool.not_false, if_true]
    refine wpAny_bind (wpAny_mono h (fun r s' z => ?_) fun _ _ e => e)
    obtain ⟨v, rfl, hq⟩ := z
    exact wpAny_pure hq
  · rename_i q
    exact absurd (by simp) q
end
end Ps

/-! The same over the layer: values of any known type on the right. -/
namespace Ps
open PySem PySem.Spec PyProof.Rows PySem.W L2

section
variable {prog : Program} {w : World} {A : Around} {E : Value → Shared → Prop} {s : Shared} {K : Frag} {x C f : Addr} {ox : Obj} {od : Option Obj} {b : Value} {nm T : String}
/-- a built-in class, as a number's operator looks at it -/
structure Bt (T nm : String) : Prop where
  l : ∃ o, fastLookup T (PySem.dunder nm) = some o
  r : ∃ o, fastLookup T (dunderR nm) = some o
  no : (fastBuiltinMro T).map (fun l => l.all fun v => match v with | .type _ => true | _ => false) = some true
theorem noRef {T : String} {C : Addr} (h : (fastBuiltinMro T).map (fun l => l.all fun v => match v with | .type _ => true | _ => false) = some true) : subIn K (.type T) (.ref C) = some false := by
  show (fastBuiltinMro T).map (·.contains (.ref C)) = some false
  cases e : fastBuiltinMro T with
  | none => rw [e] at h; cases h
  | some l =>
    rw [e] at h
    have h2 : (l.all fun v => match v with | .type _ => true | _ => false) = true := Option.some.inj h
    show some (l.contains (.ref C)) = some false
    congr 1
    rw [Bool.eq_false_iff]
    intro z
    have z2 := List.all_eq_true.mp h2 _ (List.contains_iff_mem.mp z)
    cases z2
theorem bin1_T {Q : Value → Shared → Prop} (X : K.In s.heap) (I : InstAt s.heap x ox C od) (hb : Looks (model prog w) s.heap (typeOf b) (.type T)) (hc : selfFirst K C = true)
    (hs : findIn K (.ref C) (PySem.dunder nm) = some (some (.ref f))) (hf : isFn K (.ref f) = true) {rc : Option Value} (hr : findIn K (.ref C) (dunderR nm) = some rc) (hp : rc = none ∨ ∃ g : Addr, rc = some (.ref g)) (B : Bt T nm)
    (h : wpAny (model prog w) A (call (.ref f) [.ref x, b]) (PySem.W.CmpBack Q) E s) : wpAny (model prog w) A (binaryOp1 nm (.ref x) b) (fun r s' => ∃ v, r = some v ∧ Q v s') E s := by
  obtain ⟨cd, rest, hcd, hm⟩ := ksp_first hc
  have one := ksp_try X I hs hf h
  obtain ⟨⟨fo, h1⟩, ⟨ro, h2⟩, hno⟩ := B
  obtain ⟨hh, g, d, tt, os⟩ := s
  have L1 : Looks (model prog w) hh (typeOf (.ref x)) (.ref C) := I.type
  have L3 : Looks (model prog w) hh (fillsNumberSlot (.ref C) nm) true := fills_K X hcd hm hs
  have L4 : Looks (model prog w) hh (fillsNumberSlot (.type T) nm) ((fo.isSome && !isSeqSlot fo) || (ro.isSome && !isSeqSlot ro)) := ksp_fillsT X h1 h2
  have L5 : Looks (model prog w) hh (isSubtype (.type T) (.ref C)) false := looks_subIn X (noRef hno)
  have L6 : Looks (model prog w) hh (numberSlotInPython (.ref C) nm) true := ksp_inPy X hs hr hp
  have L7 : Looks (model prog w) hh (numberSlotInPython (.type T) nm) false := Looks.of_pure rfl
  have L8 : Looks (model prog w) hh (typeLookup (.type T) (dunderR nm)) ro := looks_findIn X h2
  generalize ((fo.isSome && !isSeqSlot fo) || (ro.isSome && !isSeqSlot ro)) = right at L4
  have hne : (Value.ref C == Value.type T) = false := Bool.eq_false_iff.mpr fun q => by cases beq_iff_eq.mp q
  unfold binaryOp1
  refine wpAny_bind (L1.at (wpAny_bind (hb.at (wpAny_bind (L3.at ?_)))))
  simp only [hne, Bool.false_eq_true, if_false]
  cases right
  · ksp_lk
    refine wpAny_mono one (fun r s' hr' => ?_) fun _ _ e => e
    obtain ⟨v, rfl, hq⟩ := hr'
    ksp_lk
    exact ⟨_, rfl, hq⟩
  · ksp_lk
    refine wpAny_mono one (fun r s' hr' => ?_) fun _ _ e => e
    obtain ⟨v, rfl, hq⟩ := hr'
    ksp_lk
    exact ⟨_, rfl, hq⟩
theorem bin1_K {Q : Value → Shared → Prop} (X : K.In s.heap) (I : InstAt s.heap x ox C od) (hb : Looks (model prog w) s.heap (typeOf b) (.ref C)) (hc : selfFirst K C = true)
    (hs : findIn K (.ref C) (PySem.dunder nm) = some (some (.ref f))) (hf : isFn K (.ref f) = true)
    (h : wpAny (model prog w) A (call (.ref f) [.ref x, b]) (PySem.W.CmpBack Q) E s) : wpAny (model prog w) A (binaryOp1 nm (.ref x) b) (fun r s' => ∃ v, r = some v ∧ Q v s') E s := by
  obtain ⟨cd, rest, hcd, hm⟩ := ksp_first hc
  have one := ksp_try X I hs hf h
  unfold binaryOp1
  refine wpAny_bind (I.type.here (wpAny_bind (hb.here (wpAny_bind ((fills_K X hcd hm hs).here ?_)))))
  simp only [beq_self_eq_true, if_true]
  refine wpAny_bind (wpAny_pure ?_)
  simp only [Bool.and_false, Bool.false_eq_true, if_false, Bool.false_and]
  refine wpAny_bind (wpAny_pure ?_)
  simp only [Bool.false_eq_true, if_false]
  refine wpAny_bind (m := tryMethod (.ref x) _ b) (wpAny_mono one (fun r s' hr' => ?_) fun _ _ e => e)
  obtain ⟨v, rfl, hq⟩ := hr'
  exact wpAny_pure ⟨_, rfl, hq⟩
theorem bin_of1 {op : Operator} {a : Value} {Q : Value → Shared → Prop} (h : wpAny (model prog w) A (binaryOp1 op.info.2 a b) (fun r s' => ∃ v, r = some v ∧ Q v s') E s) : wpAny (model prog w) A (binaryOp op a b) Q E s := by
  rcases hi : op.info with ⟨sym, nm'⟩
  rw [hi] at h
  simp only [binaryOp, hi]
  refine wpAny_holding (wpAny_bind (wpAny_mono h (fun r s' z => ?_) fun _ _ e => e))
  obtain ⟨v, rfl, hq⟩ := z
  exact wpAny_pure hq
/-- no in-place method along the class and object -/
structure NoI (K : Frag) (C : Addr) (nm : String) : Prop where
  cd : ∃ cd, clsIn K C = some cd ∧ cd.mro = [.ref C, .type "object"]
  l : findIn K (.ref C) (dunderI nm) = some none
  o : fastLookup "object" (dunderI nm) = some none
theorem fillsI_no {M : Model} {h : Heap} {add : Bool} (X : K.In h) (N : NoI K C nm) : Looks M h (fillsInplaceSlot (.ref C) nm add) false := by
  obtain ⟨⟨cd, hc, hm⟩, hl, ho⟩ := N
  intro A Q E s k q
  have Lm : Looks M h (mroOf (.ref C)) cd.mro := (looks_clsIn X hc).andThen (f := fun cd => pure cd.mro) .now
  have Lm' := Lm.keeps k
  obtain ⟨hh, g, d, tt, os⟩ := s
  have X' : K.In hh := X.keeps k
  have L1 : Looks M hh (typeLookup (.ref C) (dunderI nm)) none := looks_findIn X' hl
  have L2 : Looks M hh (typeLookup (.type "object") (dunderI nm)) none := looks_findIn X' (t := .type "object") ho
  unfold fillsInplaceSlot
  refine wpAny_bind (Lm'.at ?_)
  rw [hm, List.anyM_cons]
  refine wpAny_bind ?_
  repeat lk
  first
    | exact q
    | (rw [List.anyM_cons]; refine wpAny_bind ?_; repeat lk; first | exact q | (rw [List.anyM_nil]; exact wpAny_pure q))
theorem ip_of1 {op : Operator} {Q : Value → Shared → Prop} (X : K.In s.heap) (I : InstAt s.heap x ox C od) (N : NoI K C op.info.2) (h : wpAny (model prog w) A (binaryOp1 op.info.2 (.ref x) b) (fun r s' => ∃ v, r = some v ∧ Q v s') E s) : wpAny (model prog w) A (inplaceOp op (.ref x) b) Q E s := by
  unfold inplaceOp
  refine wpAny_holding ?_
  refine wpAny_bind (I.type.here (wpAny_bind ((fillsI_no X N).here ?_)))
  simp only [Bool.false_eq_true, if_false]
  refine wpAny_bind (wpAny_mono h (fun r s' z => ?_) fun _ _ e => e)
  obtain ⟨v, rfl, hq⟩ := z
  exact wpAny_pure hq
end
end Ps

/-! Rules: operators and comparisons of own instances with values of any known type. -/
namespace Ps
open PySem PySem.Spec PyProof.Rows PySem.W L2

section
variable {Z : Cz} {X : Cx} {CX : CXT} {k : Nat} {C : Addr} {ps : List Str} {sp : Sp} {E : XK}
/-- a value that stands right of an operator -/
def Sd (K : Frag) (C : Addr) (nm : String) (H : Hp) (y : V) : Prop := ∃ t, TyX K H y t ∧ (t = .ref C ∨ ∃ T, t = .type T ∧ Bt T nm)
def rBin (K : Frag) (C : Addr) (nm : String) (sp : Sp) (E : XK) : R2 := fun x y H Q => InsC C H x ∧ Sd K C nm H y ∧ sp [x, y] H Q E
theorem bin1_any {nm : String} {f : Addr} {fd : FuncData} {rc : Option Value} {pins : List (Addr × Obj)} {s : Shared} {σ : L2.St} {H : Hp} {x y : V} {v u : Value} {Q : VK} (O : OwnOp X.K C f (PySem.dunder nm)) (hrc : findIn X.K (.ref C) (dunderR nm) = some rc) (hp : rc = none ∨ ∃ g : Addr, rc = some (.ref g))
    (G : FnOk X.prog X.w X.K X.mg X.base CX k f fd ps sp) (hr : Room k X.A) (hb : Binds X.K fd ps []) (hx : Passes CX X E) (I : L2.Inv X pins σ H s) (rx : RelV x v) (ry : RelV y u) (h : rBin X.K C nm sp E x y H Q) :
    ∃ a ox od, v = .ref a ∧ InstAt s.heap a ox C od ∧ wpAny (model X.prog X.w) X.A (binaryOp1 nm v u) (fun r s' => ∃ z, r = some z ∧ EP X pins σ Q z s') X.xe s := by
  obtain ⟨⟨a, dx, fs, rfl, ha⟩, ⟨t, ty, ht⟩, h⟩ := h
  cases (show v = Value.ref a from rx)
  obtain ⟨mA, J0, _⟩ := ins_get I.hok ha
  obtain ⟨od, J, _⟩ := J0.look
  obtain ⟨P, Zk, p, _⟩ := kit_of I ry ty
  have hl := Zk.ty (model X.prog X.w) s.heap I.kIn p
  have hcall := wpAny_mono (run_fn (us := [.ref a, u]) (vs := [.ref a, y]) (dvs := []) G hr hb .nil hx I (.cons rfl (.cons ry .nil)) h) (fun _ _ z => cmpBack z) fun _ _ z => z
  rcases ht with rfl | ⟨T, rfl, B⟩
  · exact ⟨a, _, _, rfl, J, bin1_K I.kIn J hl O.sf O.fn O.isf hcall⟩
  · exact ⟨a, _, _, rfl, J, bin1_T I.kIn J hl O.sf O.fn O.isf hrc hp B hcall⟩
/-- what is known of the reflected method of a class -/
structure Rfl (K : Frag) (C : Addr) (nm : String) : Prop where
  r : ∃ rc, findIn K (.ref C) (dunderR nm) = some rc ∧ (rc = none ∨ ∃ g : Addr, rc = some (.ref g))
theorem op_bin {op : Operator} (c : CalS Z CX k C (PySem.dunder op.info.2) ps sp) (N : Rfl Z.K C op.info.2) (hr : Room k X.A) (hx : Passes CX X E) (z : InZ Z X := by exact ⟨rfl, rfl, rfl, rfl, rfl⟩) : OpR X (binaryOp op) (rBin Z.K C op.info.2 sp E) := by
  obtain ⟨f, fd, G, h1, h2⟩ := c
  obtain ⟨rc, hrc, hp⟩ := N.r
  have z' := z
  obtain ⟨e1, e2, e3, e4, e5⟩ := z
  intro pins s σ H x y v u Q I rx ry h
  obtain ⟨a, ox, od, rfl, J, w1⟩ := bin1_any (X := X) (by rw [e3]; exact h1) (by rw [e3]; exact hrc) hp (z'.ok G) hr (by rw [e3]; exact h2) hx I rx ry (by rw [e3]; exact h)
  exact bin_of1 w1
theorem ip_bin {op : Operator} (c : CalS Z CX k C (PySem.dunder op.info.2) ps sp) (N : Rfl Z.K C op.info.2) (O : NoI Z.K C op.info.2) (hr : Room k X.A) (hx : Passes CX X E) (z : InZ Z X := by exact ⟨rfl, rfl, rfl, rfl, rfl⟩) : PIp X op (rBin Z.K C op.info.2 sp E) := by
  obtain ⟨f, fd, G, h1, h2⟩ := c
  obtain ⟨rc, hrc, hp⟩ := N.r
  have z' := z
  obtain ⟨e1, e2, e3, e4, e5⟩ := z
  intro pins s σ H x y v u Q I rx ry h
  obtain ⟨a, ox, od, rfl, J, w1⟩ := bin1_any (X := X) (by rw [e3]; exact h1) (by rw [e3]; exact hrc) hp (z'.ok G) hr (by rw [e3]; exact h2) hx I rx ry (by rw [e3]; exact h)
  exact ip_of1 I.kIn J (by rw [e3]; exact O) w1
/-! ### comparisons -/
def Nf (K : Frag) (C : Addr) (H : Hp) (y : V) : Prop := ∃ t, TyX K H y t ∧ notFirst K C t = true
def rCmp (K : Frag) (C : Addr) (sp : Sp) (E : XK) : R2 := fun x y H Q => InsC C H x ∧ Nf K C H y ∧ sp [x, y] H Q E
theorem op_cmp {op : CmpOp} (c : CalS Z CX k C (cmpInfo op).2.1 ps sp) (hr : Room k X.A) (hx : Passes CX X E) (z : InZ Z X := by exact ⟨rfl, rfl, rfl, rfl, rfl⟩) (hop : ∀ a b, compareOp op a b = richCompare op a b := by intro _ _; rfl) : OpR X (compareOp op) (rCmp Z.K C sp E) := by
  obtain ⟨f, fd, G, h1, h2⟩ := c
  have z' := z
  obtain ⟨e1, e2, e3, e4, e5⟩ := z
  intro pins s σ H x y v u Q I rx ry h
  obtain ⟨⟨a, dx, fs, rfl, ha⟩, ⟨t, ty, ht⟩, h⟩ := h
  cases (show v = Value.ref a from rx)
  rw [← e3] at ty ht h1
  obtain ⟨mA, J0, _⟩ := ins_get I.hok ha
  obtain ⟨od, J, _⟩ := J0.look
  obtain ⟨P, Zk, p, _⟩ := kit_of I ry ty
  obtain ⟨m, hF⟩ := I.fr
  rw [hop]
  refine cmp_K hr.units0 hF I.ok.mod.kin J (Zk.ty (model X.prog X.w) s.heap I.kIn p) ht h1.fn h1.isf ?_
  exact wpAny_mono (run_fn (us := [.ref a, u]) (vs := [.ref a, y]) (dvs := []) (z'.ok G) hr (by rw [e3]; exact h2) .nil hx I (.cons rfl (.cons ry .nil)) h) (fun _ _ z => cmpBack z) fun _ _ z => z
/-- what is known of != -/
structure NeT (K : Frag) (C : Addr) : Prop where
  ne : findIn K (.ref C) "__ne__" = some (some (.builtin "object.__ne__"))
  m : mroIn K C (.type "object") = some true
def rNe (K : Frag) (C : Addr) (sp : Sp) (E : XK) : R2 := fun x y H Q => InsC C H x ∧ Nf K C H y ∧ sp [x, y] H (fun v H' => ∃ b, v = .bl b ∧ Q (.bl (!b)) H') E
theorem ne_back {pins : List (Addr × Obj)} {σ : L2.St} {Q : VK} {v : Value} {s : Shared} (h : EP X pins σ (fun v H' => ∃ b, v = .bl b ∧ Q (.bl (!b)) H') v s) : ∃ r, v = .bool r ∧ EP X pins σ Q (.bool (!r)) s := by
  obtain ⟨v', H', I, r, b, rfl, q⟩ := h
  cases (show v = Value.bool b from r)
  exact ⟨b, rfl, .bl (!b), H', I, rfl, q⟩
theorem op_ne_ (c : CalS Z CX k C "__eq__" ps sp) (N : NeT Z.K C) (hr : Room (k + 1) X.A) (hx : Passes CX X E) (z : InZ Z X := by exact ⟨rfl, rfl, rfl, rfl, rfl⟩) : OpR X (compareOp .NotEq) (rNe Z.K C sp E) := by
  obtain ⟨f, fd, G, h1, h2⟩ := c
  have z' := z
  obtain ⟨e1, e2, e3, e4, e5⟩ := z
  intro pins s σ H x y v u Q I rx ry h
  obtain ⟨⟨a, dx, fs, rfl, ha⟩, ⟨t, ty, ht⟩, h⟩ := h
  cases (show v = Value.ref a from rx)
  rw [← e3] at ty ht h1 N
  obtain ⟨mA, J0, _⟩ := ins_get I.hok ha
  obtain ⟨od, J, _⟩ := J0.look
  obtain ⟨P, Zk, p, _⟩ := kit_of I ry ty
  show wpAny _ _ (richCompare .NotEq (.ref a) u) _ _ _
  refine cmp_ne (hu_of hr) I.kIn J (Zk.ty (model X.prog X.w) s.heap I.kIn p) ht N.ne N.m h1.fn h1.isf ?_
  exact wpAny_mono (run_fn1 (us := [.ref a, u]) (vs := [.ref a, y]) (z'.ok G) hr (by rw [e3]; exact h2) hx I (.cons rfl (.cons ry .nil)) h) (fun _ _ z => ne_back z) fun _ _ z => z
/-! an int on the left -/
def rCmpI (C : Addr) (sp : Sp) (E : XK) : R2 := fun x y H Q => (∃ i, x = .int i) ∧ InsC C H y ∧ sp [y, x] H Q E
theorem one_int {op : CmpOp} {i : Int} {t : Tok} {x : Addr} : oneThing? op (.int i t) (.ref x) = none := by cases op <;> rfl
theorem op_cmpI {op : CmpOp} {id : String} (c : CalS Z CX k C (cmpInfo op).2.2 ps sp) (hsub : subIn Z.K (.ref C) (.type "int") = some false) (sl : Slot "int" (cmpInfo op).2.1 id)
    (hd : ∀ {s : Shared} {x C dx : Addr} {t : Tok} {i : Int} {Q : Value → Shared → Prop}, s.heap.get? x = some (instObj C dx) → Q .notImplemented s → wpAny (model X.prog X.w) X.A (call (.builtin id) [.int i t, .ref x]) Q X.xe s)
    (hr : Room k X.A) (hx : Passes CX X E) (z : InZ Z X := by exact ⟨rfl, rfl, rfl, rfl, rfl⟩) (hop : ∀ a b, compareOp op a b = richCompare op a b := by intro _ _; rfl) : OpR X (compareOp op) (rCmpI C sp E) := by
  obtain ⟨f, fd, G, h1, h2⟩ := c
  have z' := z
  obtain ⟨e1, e2, e3, e4, e5⟩ := z
  intro pins s σ H x y v u Q I rx ry h
  obtain ⟨⟨i, rfl⟩, ⟨a, dx, fs, rfl, ha⟩, h⟩ := h
  cases (show u = Value.ref a from ry)
  obtain ⟨t, e⟩ := (show ∃ t, v = Value.int i t from rx)
  cases e
  rw [← e3] at hsub h1
  obtain ⟨mA, J0, _⟩ := ins_get I.hok ha
  obtain ⟨_, _, _, hget, _⟩ := (show ObjOk X.prog X.w H s.heap a (.ins C dx fs) from I.hok a _ ha)
  obtain ⟨od, J, _⟩ := J0.look
  rw [hop]
  refine cmp_R hr.units0 I.kIn J hsub one_int (wpAny_tryCompare_declines (typeIs_int _ i t) sl (hd hget ⟨rfl, rfl, rfl⟩)) ?_
  unfold tryCompare
  refine wpAny_bind (ifBound_K I.kIn J h1.fn h1.isf (wpAny_mono (run_fn (us := [.ref a, .int i t]) (vs := [.ref a, .int i]) (dvs := []) (z'.ok G) hr (by rw [e3]; exact h2) .nil hx I (.cons rfl (.cons ⟨t, rfl⟩ .nil)) h) (fun v s' z => ?_) fun _ _ z => z))
  have z2 := cmpBack z
  cases v <;> first | exact False.elim z2 | exact wpAny_pure ⟨_, rfl, z⟩
def rNeI (C : Addr) (sp : Sp) (E : XK) : R2 := fun x y H Q => (∃ i, x = .int i) ∧ InsC C H y ∧ sp [y, x] H (fun v H' => ∃ b, v = .bl b ∧ Q (.bl (!b)) H') E
theorem op_neI (c : CalS Z CX k C "__eq__" ps sp) (N : NeT Z.K C) (hsub : subIn Z.K (.ref C) (.type "int") = some false) (hr : Room (k + 1) X.A) (hx : Passes CX X E) (z : InZ Z X := by exact ⟨rfl, rfl, rfl, rfl, rfl⟩) : OpR X (compareOp .NotEq) (rNeI C sp E) := by
  obtain ⟨f, fd, G, h1, h2⟩ := c
  have z' := z
  obtain ⟨e1, e2, e3, e4, e5⟩ := z
  intro pins s σ H x y v u Q I rx ry h
  obtain ⟨⟨i, rfl⟩, ⟨a, dx, fs, rfl, ha⟩, h⟩ := h
  cases (show u = Value.ref a from ry)
  obtain ⟨t, e⟩ := (show ∃ t, v = Value.int i t from rx)
  cases e
  rw [← e3] at hsub h1 N
  obtain ⟨mA, J0, _⟩ := ins_get I.hok ha
  obtain ⟨_, _, _, hget, _⟩ := (show ObjOk X.prog X.w H s.heap a (.ins C dx fs) from I.hok a _ ha)
  obtain ⟨od, J, _⟩ := J0.look
  show wpAny _ _ (richCompare .NotEq (.int i t) (.ref a)) _ _ _
  refine cmp_R hr.units0 I.kIn J hsub one_int (wpAny_tryCompare_declines (typeIs_int _ i t) F.slot_int_ne (dec_ne hget ⟨rfl, rfl, rfl⟩)) ?_
  show wpAny _ _ (tryCompare (.ref a) "__ne__" (.int i t)) _ _ _
  refine tryNe (hu_of hr) I.kIn J N.ne N.m h1.fn h1.isf ?_
  refine wpAny_mono (run_fn1 (us := [.ref a, .int i t]) (vs := [.ref a, .int i]) (z'.ok G) hr (by rw [e3]; exact h2) hx I (.cons rfl (.cons ⟨t, rfl⟩ .nil)) h) (fun _ _ z => ?_) fun _ _ z => z
  obtain ⟨r, rfl, q⟩ := ne_back z
  exact ⟨r, rfl, _, rfl, q⟩
end
/-! ### facts of built-in classes -/
theorem nf_ty {K : Frag} {C : Addr} {T : String} (h : (fastBuiltinMro T).map (fun l => l.all fun v => match v with | .type _ => true | _ => false) = some true) : notFirst K C (.type T) = true := by
  unfold notFirst
  rw [noRef h]
  simp
theorem nf_own {K : Frag} {C : Addr} : notFirst K C (.ref C) = true := by simp [notFirst]
theorem nf_int {K : Frag} {C : Addr} : notFirst K C (.type "int") = true := nf_ty (by decide +kernel)
theorem nf_bool {K : Frag} {C : Addr} : notFirst K C (.type "bool") = true := nf_ty (by decide +kernel)
theorem nf_str {K : Frag} {C : Addr} : notFirst K C (.type "str") = true := nf_ty (by decide +kernel)
theorem nf_non {K : Frag} {C : Addr} : notFirst K C (.type "NoneType") = true := nf_ty (by decide +kernel)
theorem nf_flt {K : Frag} {C : Addr} : notFirst K C (.type "float") = true := nf_ty (by decide +kernel)
theorem nf_list {K : Frag} {C : Addr} : notFirst K C (.type "list") = true := nf_ty (by decide +kernel)
theorem nf_tuple {K : Frag} {C : Addr} : notFirst K C (.type "tuple") = true := nf_ty (by decide +kernel)
theorem nf_dict {K : Frag} {C : Addr} : notFirst K C (.type "dict") = true := nf_ty (by decide +kernel)
end Ps

/-! Shares: their comparisons, where nothing is raised. -/
namespace Ps
open PySem PySem.Spec PyProof.Rows PySem.W L2

/-- v is no number -/
def NotNum (K : Frag) (C : Addr) (H : Hp) (v : V) : Prop := ∃ t, TyX K H v t ∧ kitOne K t (.ref C) = some false ∧ notFirst K C t = true ∧ (t = .type "bool" ∨ kitOne K t (.type "int") = some false)
def spIsNum (K : Frag) (C : Addr) : Sp := fun vs H Q _ => ∃ v, vs = [v] ∧ (((∃ q, Nb C H v q) ∧ Q (.bl true) H) ∨ (NotNum K C H v ∧ Q (.bl false) H))
def gMin (q r : Int × Int) : Int := q.1 * r.2 - r.1 * q.2
def spMinus (C : Addr) : Sp := fun vs H Q _ => ∃ x y q r, vs = [x, y] ∧ Sh C H x q ∧ Nb C H y r ∧ Sz 4000 q ∧ Sz 4000 r ∧ ∀ H', Same H H' → Q (.int (gMin q r)) H'
def spOrd (C : Addr) (g : Int → Bool) : Sp := fun vs H Q _ => ∃ x y q r, vs = [x, y] ∧ Sh C H x q ∧ Nb C H y r ∧ Sz 4000 q ∧ Sz 4000 r ∧ ∀ H', Same H H' → Q (.bl (g (gMin q r))) H'
def spShEq (K : Frag) (C : Addr) : Sp := fun vs H Q _ => ∃ x y q, vs = [x, y] ∧ Sh C H x q ∧ ((∃ r, Nb C H y r ∧ Sz 4000 q ∧ Sz 4000 r ∧ ∀ H', Same H H' → Q (.bl (decide (gMin q r = 0))) H') ∨ (NotNum K C H y ∧ Q (.bl false) H))
theorem Nb.nf {Z : Cz} {C : Addr} (T : ShT Z C) {H : Hp} {y : V} {q : Int × Int} (h : Nb C H y q) : Nf Z.K C H y := by
  rcases h with ⟨a, dx, rfl, ha⟩ | ⟨i, rfl, _⟩
  · exact ⟨_, T.ty ha, nf_own⟩
  · exact ⟨_, .base (.int _), nf_int⟩
theorem NotNum.nf {K : Frag} {C : Addr} {H : Hp} {y : V} (h : NotNum K C H y) : Nf K C H y := by
  obtain ⟨t, ty, _, hn, _⟩ := h
  exact ⟨t, ty, hn⟩
section
variable {Z : Cz} {f C : Addr} {fd : FuncData}
abbrev CMinus (Z : Cz) (C : Addr) : Prop := CalM Z CX0 5 C "minus" ["self", "other"] [] (spMinus C)
theorem shF_no' (t u : Int) (m : Str) (h1 : (m == ("own_top" : Str)) = false) (h2 : (m == ("own_under" : Str)) = false) : (shF t u).lookup m = none := by
  unfold shF
  rw [List.lookup_cons, h1, List.lookup_cons, h2]
  rfl
end
end Ps

/-! A head by facts: defs by where they stand (a global, a method, a property's getter, a static method), one Bool for all else. -/
namespace Ps
open PySem PySem.Spec PyProof.Rows PySem.W L2 He

inductive At where
  | g (x : Str)
  | m (x m : Str)
  | p (x m : Str)
  | ps (x m : Str)
  | sm (x m : Str)
def rec0 (K : Frag) (p : Addr) (T : String) : Addr := match recIn K p T with
  | some (.ref g :: _) => g
  | _ => 0
def rec1 (K : Frag) (p : Addr) (T : String) : Addr := match recIn K p T with
  | some (_ :: .ref g :: _) => g
  | _ => 0
def At.a (K : Frag) : At → Addr
  | .g x => ga K x
  | .m x n => ma K (ga K x) n
  | .p x n => rec0 K (ma K (ga K x) n) "property"
  | .ps x n => rec1 K (ma K (ga K x) n) "property"
  | .sm x n => rec0 K (ma K (ga K x) n) "staticmethod"
def hdB (K : Frag) (p : Addr) (T : String) (g : Addr) : Bool := match recIn K p T with
  | some (.ref h :: _) => decide (h = g)
  | _ => false
theorem hdB_ok {K : Frag} {p g : Addr} {T : String} (h : hdB K p T g = true) : ∃ rest, recIn K p T = some (.ref g :: rest) := by
  unfold hdB at h
  split at h
  · rename_i a r e
    exact ⟨r, by rw [e, of_decide_eq_true h]⟩
  · cases h
def findB (K : Frag) (C : Addr) (m : Str) : Bool := eqO (findIn K (.ref C) m) (some (some (.ref (ma K C m))))
def At.ok (K : Frag) : At → Bool
  | .g x => eqO (nsIn K mainGlobals x) (some (some (.ref (ga K x))))
  | .m x n => findB K (ga K x) n && (isFn K (.ref (ma K (ga K x) n)) && selfFirst K (ga K x))
  | .p x n => findB K (ga K x) n && (eqO (specialIn K (.ref (ma K (ga K x) n)) "__get__") (some (some (.builtin "property.__get__"))) && (decide (takesIn K (.ref (ma K (ga K x) n)) = some true) && hdB K (ma K (ga K x) n) "property" (rec0 K (ma K (ga K x) n) "property")))
  | .ps x n => true
  | .sm x n => findB K (ga K x) n && hdB K (ma K (ga K x) n) "staticmethod" (rec0 K (ma K (ga K x) n) "staticmethod")
section
variable {K : Frag} {h : Heap} {mg : Str → Option Value} {x m : Str}
theorem At.glo (X : K.In h) (G : h.Ns mainGlobals mg) (c : (At.g x).ok K = true) : mg x = some (.ref (ga K x)) := mg_of X G (eqO_ok c)
theorem At.own (c : (At.m x m).ok K = true) : OwnOp K (ga K x) (ma K (ga K x) m) m := by
  obtain ⟨c1, c⟩ := ba c
  obtain ⟨c2, c3⟩ := ba c
  exact ⟨c3, eqO_ok c1, c2⟩
theorem At.meth (c : (At.m x m).ok K = true) (k : keepIn K (.ref (ma K (ga K x) m)) = true) : Meth K (ga K x) m (ma K (ga K x) m) := by
  obtain ⟨c1, c⟩ := ba c
  obtain ⟨c2, c3⟩ := ba c
  exact ⟨eqO_ok c1, c2, k⟩
theorem At.prop (c : (At.p x m).ok K = true) : PropOf K (ga K x) m (ma K (ga K x) m) (rec0 K (ma K (ga K x) m) "property") := by
  obtain ⟨c1, c⟩ := ba c
  obtain ⟨c2, c⟩ := ba c
  obtain ⟨c3, c4⟩ := ba c
  exact ⟨eqO_ok c1, eqO_ok c2, of_decide_eq_true c3, hdB_ok c4⟩
end
structure DefP where
  at_ : At
  name : Str
  qual : Str
  st : Stmt
  dfl : List Dv := []
def fnP (K : Frag) (a : Addr) : FnW := match K.lookup a with
  | some ⟨_, _, .func fd, _⟩ => some (fd.name, fd.qualname, fd.params, fd.body, fd.scope, fd.globals, fd.closure, fd.builtins)
  | _ => none
def DefP.val (d : DefP) : FnW := some (d.name, d.qual, defArgs d.st, .stmts (defBody d.st), defScope d.st, mainGlobals, [], builtinsNs)
def DefP.dvs (K : Frag) (d : DefP) : List V := d.dfl.map (Dv.v K)
def DefP.ok (K : Frag) (d : DefP) : Bool := d.at_.ok K && (keepIn K (.ref (d.at_.a K)) && (match K.lookup (d.at_.a K) with
  | some ⟨_, _, .func fd, _⟩ => codeIn K fd.code d.qual && dflB K fd.defaults (d.dvs K)
  | _ => false))
theorem DefP.funD {K : Frag} {d : DefP} (e : fnP K (d.at_.a K) = d.val) (c : d.ok K = true) : d.at_.ok K = true ∧ ∃ fd, FunD K d.name d.qual (defArgs d.st) (defBody d.st) (defScope d.st) (d.dvs K) [] (d.at_.a K) fd := by
  obtain ⟨ca, c⟩ := ba c
  obtain ⟨kp, c2⟩ := ba c
  refine ⟨ca, ?_⟩
  unfold fnP at e
  cases q : K.lookup (d.at_.a K) with
  | none =>
    rw [q] at c2
    cases c2
  | some o =>
    obtain ⟨oc, od, dt, osl⟩ := o
    rw [q] at c2 e
    cases dt with
    | func fd =>
      obtain ⟨n1, n2, n3, n4, n5, n6, n7, n8, n9, n10, n11, n12, n13, n14, n15⟩ := fd
      have e2 : (some (n1, n2, n3, n4, n5, n6, n7, n15) : FnW) = some (d.name, d.qual, defArgs d.st, .stmts (defBody d.st), defScope d.st, mainGlobals, [], builtinsNs) := e
      simp only [Option.some.injEq, Prod.mk.injEq] at e2
      obtain ⟨h1, h2, h3, h4, h5, h6, h7, h8⟩ := e2
      subst h1 h2 h3 h4 h5 h6 h7 h8
      have c3 : (codeIn K n13 d.qual && dflB K n8 (d.dvs K)) = true := c2
      obtain ⟨k1, k3⟩ := ba c3
      exact ⟨_, ⟨oc, od, n8, n9, n10, n11, n12, n13, n14, osl, rfl, q, k1, dflB_ok k3, .inl rfl⟩, kp⟩
    | _ => cases c2
/-- without defaults -/
theorem FunD.toFun {K : Frag} {x qual : Str} {st : Stmt} {f : Addr} {fd : FuncData} (F : FunD K x qual (defArgs st) (defBody st) (defScope st) [] [] f fd) : Fun K x qual st f fd := by
  obtain ⟨⟨oc, od, dV, kV, doc, pm, an, cdv, ct, osl, e, lk, hcd, hD, hK⟩, kp⟩ := F
  rcases hD with ⟨_, rfl⟩ | ⟨z, _⟩
  · exact ⟨⟨oc, od, kV, doc, pm, an, cdv, ct, osl, e, lk, hcd⟩, kp⟩
  · exact absurd rfl z
abbrev AlP : Type := Bool × List FnW
def obsP (fn : List DefP) (ex : Frag → Bool) (K : Frag) : AlP := (ex K && fn.all fun d => d.ok K, fn.map fun d => fnP K (d.at_.a K))
def valP (fn : List DefP) : AlP := (true, fn.map DefP.val)
def SaysP (fn : List DefP) (ex : Frag → Bool) (K : Frag) : Prop := obsP fn ex K = valP fn
/-- what the names reach, and the interpreter's own statics -/
def asP (g : Addr → Option Obj) (n : Nat) : List Addr := asD g n ++ [cStatics]
def obsPG (n : Nat) (fn : List DefP) (ex : Frag → Bool) (g : Addr → Option Obj) : AlP := obsP fn ex (frG g (asP g n))
def hookP (n : Nat) (fn : List DefP) (ex : Frag → Bool) : Hook where
  α := AlP
  obs := fun s => obsPG n fn ex s.heap.get?
  val := fun _ => valP fn
  says := fun _ h => ∃ K : Frag, K.In h ∧ SaysP fn ex K
  of := fun _ _ e => ⟨_, frG_in, e⟩
  keeps := fun _ _ _ ⟨K, hK, c⟩ k => ⟨K, Frag.In.keeps hK k, c⟩
theorem obsPG_eq {n : Nat} {fn : List DefP} {ex : Frag → Bool} {g : Addr → Option Obj} {s : Shared} (h : ∀ a, g a = s.heap.get? a) : obsPG n fn ex g = (hookP n fn ex).obs s := by
  have e : g = s.heap.get? := funext h
  rw [e] <;> rfl
section
variable {fn : List DefP} {ex : Frag → Bool} {K : Frag}
theorem SaysP.more (c : SaysP fn ex K) : ex K = true := (ba (show (ex K && fn.all fun d => d.ok K) = true from congrArg (fun z : AlP => z.1) c)).1
theorem SaysP.def_ (c : SaysP fn ex K) (i : Nat) {d : DefP} (h : fn[i]? = some d := by rfl) : d.at_.ok K = true ∧ ∃ fd, FunD K d.name d.qual (defArgs d.st) (defBody d.st) (defScope d.st) (d.dvs K) [] (d.at_.a K) fd := by
  have c2 := (ba (show (ex K && fn.all fun d => d.ok K) = true from congrArg (fun z : AlP => z.1) c)).2
  have e : fn.map (fun d => fnP K (d.at_.a K)) = fn.map DefP.val := congrArg (fun z : AlP => z.2) c
  have e2 : (fn.map fun d => fnP K (d.at_.a K))[i]? = (fn.map DefP.val)[i]? := by rw [e]
  rw [List.getElem?_map, List.getElem?_map, h] at e2
  exact DefP.funD (Option.some.inj e2) (List.all_eq_true.mp c2 d (List.mem_of_getElem? h))
end
/-- the plain def at x: what is known of it -/
structure Got (K : Frag) (mg : Str → Option Value) (x : Str) (st : Stmt) (f : Addr) (fd : FuncData) : Prop where
  F : Fun K x x st f fd
  m : mg x = some (.ref f)
/-- the method m of class x -/
structure GotM (K : Frag) (C : Addr) (m qual : Str) (st : Stmt) (f : Addr) (fd : FuncData) : Prop where
  F : Fun K m qual st f fd
  o : OwnOp K C f m
structure GotP (K : Frag) (C : Addr) (m qual : Str) (st : Stmt) (p f : Addr) (fd : FuncData) : Prop where
  F : Fun K m qual st f fd
  o : PropOf K C m p f
section
variable {fn : List DefP} {ex : Frag → Bool} {K : Frag} {h : Heap} {mg : Str → Option Value} {x m qual : Str} {st : Stmt}
theorem SaysP.glo (c : SaysP fn ex K) (X : K.In h) (G : h.Ns mainGlobals mg) (i : Nat) (e : fn[i]? = some ⟨.g x, x, x, st, []⟩) : ∃ f fd, Got K mg x st f fd := by
  obtain ⟨a, fd, F⟩ := c.def_ i e
  exact ⟨_, fd, ⟨FunD.toFun F, At.glo X G a⟩⟩
theorem SaysP.meth (c : SaysP fn ex K) (i : Nat) (e : fn[i]? = some ⟨.m x m, m, qual, st, []⟩) : ∃ f fd, GotM K (ga K x) m qual st f fd := by
  obtain ⟨a, fd, F⟩ := c.def_ i e
  exact ⟨_, fd, ⟨FunD.toFun F, At.own a⟩⟩
theorem SaysP.prop (c : SaysP fn ex K) (i : Nat) (e : fn[i]? = some ⟨.p x m, m, qual, st, []⟩) : ∃ p f fd, GotP K (ga K x) m qual st p f fd := by
  obtain ⟨a, fd, F⟩ := c.def_ i e
  exact ⟨_, _, fd, ⟨FunD.toFun F, At.prop a⟩⟩
end
section
variable {Z : Cz} {CX : CXT} {k : Nat} {C : Addr} {ps : List Str} {sp : Sp} {x m qual : Str} {st : Stmt} {p f : Addr} {fd : FuncData}
theorem Got.cal (g : Got Z.K Z.mg x st f fd) (G : Z.ok CX k f fd ps sp) (b : Binds Z.K fd ps []) : Cal Z CX k x ps [] sp := ⟨f, fd, [], G, g.m, g.F.kp, b, .nil⟩
theorem GotM.calS (g : GotM Z.K C m qual st f fd) (G : Z.ok CX k f fd ps sp) (b : Binds Z.K fd ps []) : CalS Z CX k C m ps sp := ⟨f, fd, G, g.o, b⟩
theorem GotM.calM (g : GotM Z.K C m qual st f fd) (cl : Cls Z.K C) (G : Z.ok CX k f fd ps sp) (b : Binds Z.K fd ps []) : CalM Z CX k C m ps [] sp := ⟨f, fd, [], G, ⟨g.o.fn, g.o.isf, g.F.kp⟩, cl, b, .nil⟩
theorem GotP.calP (g : GotP Z.K C m qual st p f fd) (cl : Cls Z.K C) (G : Z.ok CX k f fd ["self"] sp) (b : Binds Z.K fd ["self"] []) : CalP Z CX k C m sp := ⟨p, f, fd, [], G, g.o, cl, b, .nil⟩
end
/-! ### Bools of further facts -/
def numB (K : Frag) (C : Addr) (nm : String) : Bool := findB K C (PySem.dunder nm) && (findB K C (dunderR nm) && ((findIn K (.type "int") (PySem.dunder nm)).isSome && ((findIn K (.type "int") (dunderR nm)).isSome && (decide (subIn K (.type "int") (.ref C) = some false) && decide (subIn K (.ref C) (.type "int") = some false)))))
theorem numB_ok {K : Frag} {C : Addr} {nm : String} (c : numB K C nm = true) : NumF K C nm := by
  obtain ⟨c1, c⟩ := ba c
  obtain ⟨c2, c⟩ := ba c
  obtain ⟨c3, c⟩ := ba c
  obtain ⟨c4, c⟩ := ba c
  obtain ⟨c5, c6⟩ := ba c
  exact ⟨⟨_, eqO_ok c1⟩, ⟨_, eqO_ok c2⟩, Option.isSome_iff_exists.mp c3, Option.isSome_iff_exists.mp c4, of_decide_eq_true c5, of_decide_eq_true c6⟩
def freeB (K : Frag) (xs : List Str) : Bool := xs.all fun x => eqO (nsIn K mainGlobals x) (some none)
theorem freeB_ok {K : Frag} {h : Heap} {mg : Str → Option Value} (X : K.In h) (G : h.Ns mainGlobals mg) {xs : List Str} (c : freeB K xs = true) {x : Str} (hx : x ∈ xs) : mg x = none := mg_none_of X G (eqO_ok (List.all_eq_true.mp c x hx))
end Ps

/-! What the names reach, gathered in rounds: the seen addresses are a Nat's bits (the kernel's own arithmetic), each object is looked at once. -/
namespace Ps
open PySem PySem.Spec PyProof.Rows PySem.W L2 He

section
variable {α : Type} (g : Addr → Option Obj)
def inQ (k : Nat → Frag → List Addr → α) : List Addr → Nat → Frag → List Addr → α
  | [], v, acc, nx => k v acc nx
  | a :: r, v, acc, nx => HandSHeadRun.frNat a fun a => match Nat.land (Nat.shiftRight v a) 1 with
    | 0 => (match g a with
      | some o => HandSHeadRun.frNat (Nat.lor v (Nat.shiftLeft 1 a)) fun v => inQ k r v ((a, o) :: acc) (refsD o ++ nx)
      | none => inQ k r v acc nx)
    | _ + 1 => inQ k r v acc nx
def outQ (k : Frag → α) : Nat → List Addr → Nat → Frag → α
  | 0, l, v, acc => inQ g (fun _ acc _ => k acc) l v acc []
  | n + 1, l, v, acc => inQ g (fun v acc nx => outQ k n nx v acc) l v acc []
def GoodQ (acc : Frag) : Prop := ∀ a o, acc.lookup a = some o → g a = some o
variable {g}
theorem GoodQ.cons {acc : Frag} {a : Addr} {o : Obj} (h : GoodQ g acc) (e : g a = some o) : GoodQ g ((a, o) :: acc) := fun b o' q => by
  have q2 : (match b == a with | true => some o | false => acc.lookup b) = some o' := q
  cases z : (b == a) with
  | true =>
    rw [z] at q2
    have eo : o = o' := Option.some.inj q2
    rw [beq_iff_eq.mp z, e, eo]
  | false =>
    rw [z] at q2
    exact h _ _ q2
theorem inQ_ok {Φ : α → Prop} {k : Nat → Frag → List Addr → α} (hk : ∀ v acc nx, GoodQ g acc → Φ (k v acc nx)) : ∀ (l : List Addr) (v : Nat) (acc : Frag) (nx : List Addr), GoodQ g acc → Φ (inQ g k l v acc nx)
  | [], v, acc, nx, h => hk v acc nx h
  | a :: r, v, acc, nx, h => by
    unfold inQ
    rw [HandSHeadRun.frNat_eq]
    cases Nat.land (Nat.shiftRight v a) 1 with
    | zero =>
      show Φ (match g a with
        | some o => HandSHeadRun.frNat (Nat.lor v (Nat.shiftLeft 1 a)) fun v => inQ g k r v ((a, o) :: acc) (refsD o ++ nx)
        | none => inQ g k r v acc nx)
      cases e : g a with
      | none => exact inQ_ok hk r v acc nx h
      | some o =>
        show Φ (HandSHeadRun.frNat (Nat.lor v (Nat.shiftLeft 1 a)) fun v => inQ g k r v ((a, o) :: acc) (refsD o ++ nx))
        rw [HandSHeadRun.frNat_eq]
        exact inQ_ok hk r _ _ _ (h.cons e)
    | succ n => exact inQ_ok hk r v acc nx h
theorem outQ_ok {Φ : α → Prop} {k : Frag → α} (hk : ∀ acc, GoodQ g acc → Φ (k acc)) : ∀ (n : Nat) (l : List Addr) (v : Nat) (acc : Frag), GoodQ g acc → Φ (outQ g k n l v acc)
  | 0, l, v, acc, h => inQ_ok (fun _ acc _ q => hk acc q) l v acc [] h
  | n + 1, l, v, acc, h => inQ_ok (fun v acc nx q => outQ_ok hk n nx v acc q) l v acc [] h
end
def obsQG (n : Nat) (fn : List DefP) (ex : Frag → Bool) (g : Addr → Option Obj) : AlP := outQ g (obsP fn ex) n [mainGlobals] 0 (frG g [cStatics])
theorem goodQ_nil {g : Addr → Option Obj} (as : List Addr) : GoodQ g (frG g as) := fun _ _ e => frG_at as e
def hookQ (n : Nat) (fn : List DefP) (ex : Frag → Bool) : Hook where
  α := AlP
  obs := fun s => obsQG n fn ex s.heap.get?
  val := fun _ => valP fn
  says := fun _ h => ∃ K : Frag, K.In h ∧ SaysP fn ex K
  of := fun _ s e => outQ_ok (g := s.heap.get?) (Φ := fun z => z = valP fn → ∃ K : Frag, K.In s.heap ∧ SaysP fn ex K) (fun acc q z => ⟨acc, q, z⟩) n _ 0 _ (goodQ_nil _) e
  keeps := fun _ _ _ ⟨K, hK, c⟩ k => ⟨K, Frag.In.keeps hK k, c⟩
theorem obsQG_eq {n : Nat} {fn : List DefP} {ex : Frag → Bool} {g : Addr → Option Obj} {s : Shared} (h : ∀ a, g a = s.heap.get? a) : obsQG n fn ex g = (hookQ n fn ex).obs s := by
  have e : g = s.heap.get? := funext h
  rw [e] <;> rfl
end Ps

/-! Static methods called by the class's name. -/
namespace Ps
open PySem PySem.Spec PyProof.Rows PySem.W L2 He

/-- C.m is a static method: its record at p, its def at g -/
structure StM (K : Frag) (C : Addr) (m : Str) (p g : Addr) : Prop where
  rd : readsIn K C (.type "type") = true
  ga : specialIn K (.ref C) "__getattribute__" = some (some (.builtin "type.__getattribute__"))
  at_ : findCls K (.ref C) (.type "type") m = some (.get (.builtin "staticmethod.__get__") (.ref p) .none (.ref C))
  rc : ∃ rest, recIn K p "staticmethod" = some (.ref g :: rest)
  kp : keepIn K (.ref g) = true
def CalT (Z : Cz) (CX : CXT) (k : Nat) (C : Addr) (m : Str) (sp : Sp) : Prop := ∃ p g, FnR Z.P Z.w Z.K Z.mg Z.base CX k g sp ∧ StM Z.K C m p g
def tSMeth (C : Addr) (sp : Sp) (E : XK) (ta : TE) (t : TA) : TE := fun σ H Q => ta σ H fun x H1 => x = .ref C ∧ t σ H1 fun vs H2 => sp vs H2 Q E
section
variable {Z : Cz} {X : Cx} {CX : CXT} {k : Nat} {C : Addr} {sp : Sp} {E : XK} {o e : Expr} {es : List Expr} {m : Str} {pos apos : Pos} {ta : TE} {t : TA} {pl : Sem Bool}
theorem getsm_ok {p g : Addr} {pins : List (Addr × Obj)} {σ : L2.St} {H : Hp} {s : Shared} {A : Around} {Er : Value → Shared → Prop} {Q : Value × List Value → Shared → Prop} (I : L2.Inv X pins σ H s) (r : StM X.K C m p g)
    (h : ∀ s', L2.Inv X pins σ H s' → Q (.ref g, []) s') : wpAny (model X.prog X.w) A (getMethod (.ref C) m pl) Q Er s := by
  obtain ⟨rest, hp⟩ := r.rc
  refine method_cls I.kIn r.ga ?_
  refine cls_bind I.kIn r.rd r.at_ ?_
  refine wpAny_call (sm_get (s := { s with toks := s.toks + 1 }) I.kIn hp (handed_on rfl ?_))
  exact h _ (I.tok _)
theorem pe_calT (c : CalT Z CX k C m sp) (hr : Room k X.A) (hx : Passes CX X E) (he : PE X o ta) (ha : PA X (e :: es) t) (z : InZ Z X := by exact ⟨rfl, rfl, rfl, rfl, rfl⟩)
    (hst : starEach (e :: es) X.env = (false, eval e X.env) :: starEach es X.env := by rfl) (hpl : (backTo pos (starEach es X.env)).any (·.1) = false := by rfl)
    (ht : eval (.Call (.Attribute o m apos) (e :: es) [] pos) X.env = (do
      let ov ← eval o X.env
      standAt apos.atName
      let (f, first) ← holding [ov] (getMethod ov m pl)
      callWith pos f first (backTo pos (starEach (e :: es) X.env)) (backToKw pos (keywordEach [] X.env))) := by rfl) :
    PE X (.Call (.Attribute o m apos) (e :: es) [] pos) (tSMeth C sp E ta t) := by
  obtain ⟨p, g, F, r⟩ := c
  obtain ⟨e1, e2, e3, e4, e5⟩ := z
  have F' : FnR X.prog X.w X.K X.mg X.base CX k g sp := by rw [e1, e2, e3, e4, e5]; exact F
  rw [← e3] at r
  refine ⟨fun pins s σ H Q I h => ?_⟩
  refine methodCall_KW (pl := pl) (thn (he.run pins s σ H _ I h) fun u s1 ⟨x, H1, I1, rx, ex, q⟩ => ?_) ht
  subst ex
  obtain rfl : u = Value.ref C := rx
  refine getsm_ok I1 r fun s2 I2 => ?_
  refine callWith_K (h₀ := X.base) I2.ok.mod.kin r.kp (thn (ha.run pos _ s2 σ H1 _ I2 q) fun us s3 ⟨vs, H2, I3, rv, q2⟩ => ⟨I3.kIn, ?_⟩) hst hpl
  exact wpAny_call (run_fnR F' hr hx I3 rv q2)
theorem pe_calT0 (c : CalT Z CX k C m sp) (hr : Room k X.A) (hx : Passes CX X E) (he : PE X o ta) (z : InZ Z X := by exact ⟨rfl, rfl, rfl, rfl, rfl⟩)
    (ht : eval (.Call (.Attribute o m apos) [] [] pos) X.env = (do
      let ov ← eval o X.env
      standAt apos.atName
      let (f, first) ← holding [ov] (getMethod ov m pl)
      callWith pos f first (backTo pos (starEach [] X.env)) (backToKw pos (keywordEach [] X.env))) := by rfl) :
    PE X (.Call (.Attribute o m apos) [] [] pos) (tSMeth C sp E ta tNil) := by
  obtain ⟨p, g, F, r⟩ := c
  obtain ⟨e1, e2, e3, e4, e5⟩ := z
  have F' : FnR X.prog X.w X.K X.mg X.base CX k g sp := by rw [e1, e2, e3, e4, e5]; exact F
  rw [← e3] at r
  refine ⟨fun pins s σ H Q I h => ?_⟩
  refine methodCall_KW (pl := pl) (thn (he.run pins s σ H _ I h) fun u s1 ⟨x, H1, I1, rx, ex, q⟩ => ?_) ht
  subst ex
  obtain rfl : u = Value.ref C := rx
  refine getsm_ok I1 r fun s2 I2 => ?_
  refine callWith_K0 I2.kIn r.kp ?_
  exact wpAny_call (run_fnR F' hr hx I2 (us := []) (vs := []) .nil q)
end
/-! behind the top -/
def statB (K : Frag) (x m : Str) : Bool := readsIn K (ga K x) (.type "type") && (eqO (specialIn K (.ref (ga K x)) "__getattribute__") (some (some (.builtin "type.__getattribute__"))) &&
  (match findCls K (.ref (ga K x)) (.type "type") m with
    | some (.get (.builtin b) (.ref p) .none (.ref c)) => decide (b = "staticmethod.__get__") && (decide (p = ma K (ga K x) m) && decide (c = ga K x))
    | _ => false))
theorem statB_ok {K : Frag} {x m : Str} (c : statB K x m = true) (a : (At.sm x m).ok K = true) (k : keepIn K (.ref ((At.sm x m).a K)) = true) : StM K (ga K x) m (ma K (ga K x) m) ((At.sm x m).a K) := by
  obtain ⟨c1, c⟩ := ba c
  obtain ⟨c2, c3⟩ := ba c
  obtain ⟨a1, a2⟩ := ba a
  refine ⟨c1, eqO_ok c2, ?_, hdB_ok a2, k⟩
  split at c3
  · rename_i b p c' e
    obtain ⟨d1, d⟩ := ba c3
    obtain ⟨d2, d3⟩ := ba d
    rw [e, of_decide_eq_true d1, of_decide_eq_true d2, of_decide_eq_true d3]
  · cases c3
theorem SaysP.stat {fn : List DefP} {ex : Frag → Bool} {K : Frag} {x m qual : Str} {st : Stmt} (c : SaysP fn ex K) (i : Nat) (e : fn[i]? = some ⟨.sm x m, m, qual, st, []⟩) (h : statB K x m = true) : ∃ p g fd, StM K (ga K x) m p g ∧ Fun K m qual st g fd := by
  obtain ⟨a, fd, F⟩ := c.def_ i e
  exact ⟨_, _, fd, statB_ok h a F.kp, FunD.toFun F⟩
/-- def m(*v) -/
theorem Fun.star0 {Z : Cz} {x qual pv : Str} {st : Stmt} {f : Addr} {fd : FuncData} {N : List Str} {k : Nat} {sp : Sp} {CX : CXT} (F : Fun Z.K x qual st f fd) (S : FnScope N [pv] (defScope st)) (hCX : StX.CXUp CX)
    (h0 : ∀ (kV doc pm : Value) (an : Option Addr) (cdv ct : Value), bindArgs (fnOf x qual (defArgs st) (defBody st) (defScope st) .none kV doc pm an cdv ct) ⟨[], []⟩ = (newTuple [] >>= fun t => pure [(pv, t)]))
    (h1 : ∀ (kV doc pm : Value) (an : Option Addr) (cdv ct : Value) (r : Value) (rs : List Value), bindArgs (fnOf x qual (defArgs st) (defBody st) (defScope st) .none kV doc pm an cdv ct) ⟨r :: rs, []⟩ = (newTuple (r :: rs) >>= fun t => pure [(pv, t)]))
    (hbody : ∀ (cdv : Value) (A : Around) (outer : List Env) (s : Shared) (H : Hp) (vs : List V) (Q : VK) (E : XK), Room k (A.deeper (envOfC qual (defScope st) s.heap.objs.size f cdv)) → sp vs H Q E →
      ∃ t, PSs (cxOf CX Z.P Z.w Z.K Z.mg Z.base N qual (defScope st) f cdv A outer s H E) (defBody st) t ∧ t { nx := fun _ H' => Q .non H', rt := Q } (start N vs) H) :
    FnR Z.P Z.w Z.K Z.mg Z.base CX (k + 1) f (fun vs H Q E => vs.length ≤ sizeLine ∧ ∀ p, H p = none → sp [V.ref p] (upd H p (.tup vs)) Q E) := by
  obtain ⟨oc, od, kV, doc, pm, an, cdv, ct, osl, rfl, lk, hcd⟩ := F.ex
  have G := StX.fn_star (ps := []) (pv := pv) (sp := sp) (k := k) (P := Z.P) (w := Z.w) (mg := Z.mg) (base := Z.base) lk hcd S hCX (fun us rest hl => match us, rest, hl with | [], [], _ => h0 kV doc pm an cdv ct | [], r :: rs, _ => h1 kV doc pm an cdv ct r rs) (fun A outer s H vs Q E hr hsp => hbody cdv A outer s H vs Q E hr hsp)
  exact G.imp fun vs H Q E ⟨hl, h⟩ => ⟨[], vs, rfl, rfl, hl, h⟩
end Ps

/-! Common words of the laws about shares. -/
namespace Ps
open PySem PySem.Spec PyProof.Rows PySem.W L2

/-- two rules of one operator -/
theorem op_both {X : Cx} {f : Value → Value → Sem Value} {r1 r2 : R2} (h1 : OpR X f r1) (h2 : OpR X f r2) : OpR X f (fun x y H Q => r1 x y H Q ∨ r2 x y H Q) := by
  intro pins s σ H x y v u Q I rx ry h
  rcases h with h | h
  · exact h1 pins s σ H x y v u Q I rx ry h
  · exact h2 pins s σ H x y v u Q I rx ry h
/-- a test, with a word behind it -/
def tCutT (t : TT) : TT := fun σ H Q => ∃ Mid : Bool → Hp → Prop, t σ H Mid ∧ ∀ b H', Mid b H' → Q b H'
theorem pt_cut {X : Cx} {e : Expr} {t : TT} (h : PT X e t) : PT X e (tCutT t) := by
  refine ⟨fun pins s σ H Q I q => ?_⟩
  obtain ⟨Mid, hm, hq⟩ := q
  exact thn (h.run pins s σ H Mid I hm) fun d s1 ⟨H1, I1, q1⟩ => ⟨H1, I1, hq _ _ q1⟩

theorem mk_shI {C x dx : Addr} {H : Hp} {Q2 : VK} {E : XK} {t u : Int} (hu : u ≠ 0) (hb : u.natAbs < 2 ^ 9000) (hx : H x = none) (hdx : H dx = none) (hne : dx ≠ x) (k : ∀ H', Same H H' → Sh C H' (.ref x) (low t u) → Q2 .non H') :
    spShInit C [.ref x, .int t, .int u] (upd (upd H dx (.own x)) x (.ins C dx [])) Q2 E := by
  refine ⟨x, dx, t, u, rfl, upd_same, hu, hb, fun H' h1 h2 => ?_⟩
  refine k H' (fun b o e => ?_) ⟨x, dx, rfl, h2⟩
  rw [h1 b (ne_of_none e hx), upd_ne (ne_of_none e hx), upd_ne (ne_of_none e hdx)]
  exact e
def pair (q : Int × Int) : List V := [.int q.1, .int q.2]
/-- a new list -/
def NewL (H : Hp) (Q : VK) (xs : List V) : Prop := ∀ p H', Same H H' → H p = none → H' p = some (.lst xs) → Q (.ref p) H'
theorem NewL.here {H H1 : Hp} {Q : VK} {xs : List V} (k : NewL H Q xs) (e : Same H H1) {p : Addr} (hp : H1 p = none) : Q (.ref p) (upd H1 p (.lst xs)) :=
  k p _ (e.trans (Same.upd hp)) (e.free hp) upd_same
theorem pair_dp {K : Frag} {H : Hp} {p : Addr} {q : Int × Int} (h : H p = some (.lst (pair q))) : Dp K H (.ref p) (.list [.int q.1, .int q.2]) := .lst (SqL.of h) (.cons (.int _) (.cons (.int _) .nil))

theorem gAdd_comm (q r : Int × Int) : gAdd q r = gAdd r q := by
  unfold gAdd
  rw [Int.add_comm, Int.mul_comm q.2]
theorem gMul_comm (q r : Int × Int) : gMul q r = gMul r q := by
  unfold gMul
  rw [Int.mul_comm q.1, Int.mul_comm q.2]
theorem Sz.low {n : Nat} {q : Int × Int} (h : Sz n q) : Sz n (Ps.low q.1 q.2) :=
  ⟨Int.ne_of_gt (low_pos h.ne), Nat.lt_of_le_of_lt (low_le1 h.ne) h.t, Nat.lt_of_le_of_lt (low_le2 h.ne) h.u⟩
theorem vne {i j : Int} (h : i ≠ j) : ¬ V.int i = V.int j := fun z => h (V.int.inj z)

theorem Sz.of_low {n : Nat} {t u : Int} (hu : u ≠ 0) (h1 : t.natAbs < 2 ^ n) (h2 : u.natAbs < 2 ^ n) : Sz n (Ps.low t u) :=
  ⟨Int.ne_of_gt (low_pos hu), Nat.lt_of_le_of_lt (low_le1 hu) h1, Nat.lt_of_le_of_lt (low_le2 hu) h2⟩
theorem add_lt {i j : Int} {n : Nat} (hi : i.natAbs < 2 ^ n) (hj : j.natAbs < 2 ^ n) : (i + j).natAbs < 2 ^ (n + 1) := by
  rw [Nat.pow_succ]
  omega
theorem Sz.add {n : Nat} {q r : Int × Int} (hq : Sz n q) (hr : Sz n r) : Sz (n + n + 1) (gAdd q r) :=
  Sz.of_low (Int.mul_ne_zero hq.ne hr.ne) (add_lt (wide_lt hq.t hr.u) (wide_lt hr.t hq.u)) (lt_up (wide_lt hq.u hr.u) (by omega))
theorem Sz.mul {n : Nat} {q r : Int × Int} (hq : Sz n q) (hr : Sz n r) : Sz (n + n) (gMul q r) :=
  Sz.of_low (Int.mul_ne_zero hq.ne hr.ne) (wide_lt hq.t hr.t) (wide_lt hq.u hr.u)
theorem Sz.by_ {n : Nat} {q r : Int × Int} (hq : Sz n q) (hr : Sz n r) (hn : r.1 ≠ 0) : Sz (n + n) (gBy q r) :=
  Sz.of_low (Int.mul_ne_zero hq.ne hn) (wide_lt hq.t hr.u) (wide_lt hq.u hr.t)
theorem shF_no (t u : Int) (m : Str) (h1 : (m == ("own_top" : Str)) = false) (h2 : (m == ("own_under" : Str)) = false) : (shF t u).lookup m = none := by
  unfold shF
  rw [List.lookup_cons, h1, List.lookup_cons, h2]
  rfl

theorem eqv_pair (q : Int × Int) : PyData.eqv (.list [.int q.1, .int q.2]) (.list [.int q.1, .int q.2]) = true := SeqAt.eqv_refl _ rfl
/-- all but p is as it was -/
def Keep (p : Addr) (H H' : Hp) : Prop := ∀ b, b ≠ p → ∀ o, H b = some o → H' b = some o
theorem Keep.refl (p : Addr) (H : Hp) : Keep p H H := fun _ _ _ h => h
theorem Keep.trans {p : Addr} {H H1 H2 : Hp} (a : Keep p H H1) (b : Keep p H1 H2) : Keep p H H2 := fun c hc o h => b c hc o (a c hc o h)
theorem Keep.of_same {p : Addr} {H H1 : Hp} (a : Same H H1) : Keep p H H1 := fun c hc o h => a c o h
theorem Keep.of_eq {p : Addr} {H H1 : Hp} (a : ∀ b, b ≠ p → H1 b = H b) : Keep p H H1 := fun c hc o h => by rw [a c hc]; exact h
theorem Keep.same {p : Addr} {H0 H H1 : Hp} (e : Same H0 H) (hp : H0 p = none) (a : Keep p H H1) : Same H0 H1 := fun b o h => a b (ne_of_none h hp) o (e b o h)
theorem Pool.new {H : Hp} {p q l : Addr} {ms : List Int} {i : Nat} {o : HO} (P : Pool H p q ms i) (hl : H l = none) : Pool (upd H l o) p q ms i :=
  ⟨by rw [upd_ne (ne_of_none P.at_ hl)]; exact P.at_, by rw [upd_ne (ne_of_none P.nums hl)]; exact P.nums, P.len, P.few⟩
theorem Pool.put {H : Hp} {p q l : Addr} {ms : List Int} {i : Nat} {o : HO} (P : Pool H p q ms i) (h1 : l ≠ p) (h2 : l ≠ q) : Pool (upd H l o) p q ms i :=
  ⟨by rw [upd_ne h1.symm]; exact P.at_, by rw [upd_ne h2.symm]; exact P.nums, P.len, P.few⟩
theorem Keep.put {p D : Addr} {H H1 : Hp} {o : HO} (k : Keep p H H1) (hD : H D = none) : Keep p H (upd H1 D o) := fun b hb u h => by
  rw [upd_ne (ne_of_none h hD)]
  exact k b hb u h
def spLaw (K : Frag) : Sp := fun vs H Q _ => ∃ (a : Addr) (ns : List Int), vs = [.ref a] ∧ SqL K H a (ns.map V.int) ∧ ns.length ≤ 63 ∧ ∀ H', Q (.bl true) H'
theorem small4000 {i : Int} (h : i.natAbs ≤ 1000) : i.natAbs < 2 ^ 4000 := lt_up (m := 10) (by omega) (by decide)
theorem two_of {ts : List Int} (h : ts.length = 2) : ∃ a b, ts = [a, b] := by
  match ts, h with
  | [a, b], _ => exact ⟨a, b, rfl⟩

/-- two lists, item by item -/
def Al {α : Type} (R : V → α → Prop) (vs : List V) (qs : List α) : Prop := vs.length = qs.length ∧ ∀ (i : Nat) (v : V) (q : α), vs[i]? = some v → qs[i]? = some q → R v q
section
variable {α : Type} {R S : V → α → Prop} {vs : List V} {qs : List α} {v : V} {q : α}
theorem Al.nil : Al R [] [] := ⟨rfl, fun i v q h => by simp at h⟩
theorem Al.imp (h : Al R vs qs) (k : ∀ v q, R v q → S v q) : Al S vs qs := ⟨h.1, fun i v q a b => k v q (h.2 i v q a b)⟩
theorem Al.snoc (h : Al R vs qs) (hv : R v q) : Al R (vs ++ [v]) (qs ++ [q]) := by
  refine ⟨by rw [List.length_append, List.length_append, h.1]; rfl, fun i a b ha hb => ?_⟩
  by_cases hi : i < vs.length
  · rw [List.getElem?_append_left hi] at ha
    rw [List.getElem?_append_left (by rw [← h.1]; exact hi)] at hb
    exact h.2 i a b ha hb
  · rw [List.getElem?_append_right (by omega)] at ha
    rw [List.getElem?_append_right (by rw [← h.1]; omega), ← h.1] at hb
    cases e : i - vs.length with
    | zero =>
      rw [e] at ha hb
      simp at ha hb
      subst ha; subst hb
      exact hv
    | succ j =>
      rw [e] at ha
      simp at ha
theorem Al.get (h : Al R vs qs) {i : Nat} (hv : vs[i]? = some v) : ∃ q, qs[i]? = some q ∧ R v q := by
  have hi : i < qs.length := by
    rw [← h.1]
    exact (List.getElem?_eq_some_iff.mp hv).1
  exact ⟨qs[i], List.getElem?_eq_getElem hi, h.2 i v _ hv (List.getElem?_eq_getElem hi)⟩
theorem Al.cons (hv : R v q) (h : Al R vs qs) : Al R (v :: vs) (q :: qs) := by
  refine ⟨by simp [h.1], fun i a b ha hb => ?_⟩
  cases i with
  | zero =>
    simp at ha hb
    subst ha; subst hb
    exact hv
  | succ j =>
    simp at ha hb
    exact h.2 j a b ha hb
theorem Al.uncons (h : Al R (v :: vs) (q :: qs)) : R v q ∧ Al R vs qs :=
  ⟨h.2 0 v q rfl rfl, by have := h.1; simpa using this, fun i a b ha hb => h.2 (i + 1) a b ha hb⟩
end
theorem take_more' {α : Type} {l : List α} {i : Nat} {x : α} (h : l[i]? = some x) : l.take (i + 1) = l.take i ++ [x] := by
  rw [List.take_succ, h]
  rfl
theorem Sz.add' {m n : Nat} {q r : Int × Int} (hq : Sz m q) (hr : Sz n r) : Sz (m + n + 1) (gAdd q r) :=
  Sz.of_low (Int.mul_ne_zero hq.ne hr.ne) (add_lt (wide_lt hq.t hr.u) (by rw [Nat.add_comm m n]; exact wide_lt hr.t hq.u)) (lt_up (wide_lt hq.u hr.u) (by omega))
theorem Sz.mul' {m n : Nat} {q r : Int × Int} (hq : Sz m q) (hr : Sz n r) : Sz (m + n) (gMul q r) :=
  Sz.of_low (Int.mul_ne_zero hq.ne hr.ne) (wide_lt hq.t hr.t) (wide_lt hq.u hr.u)
theorem Sz.sub' {m n : Nat} {q r : Int × Int} (hq : Sz m q) (hr : Sz n r) : Sz (m + n + 1) (gSub q r) := hq.add' hr.neg
end Ps

/-! Own errors over PlanError(Exception) whose __init__ keeps one field: made, raised, caught, read. -/
namespace Ps
open PySem PySem.W PySem.Calls PyProof.Rows PySem.HandSPX He

def xA (fl : Str) (p1 p2 : Pos) : Arguments := { posonlyargs := [], args := [{ arg := "self", annotation := none, pos := p1 }, { arg := fl, annotation := none, pos := p2 }], vararg := none, kwonlyargs := [], kw_defaults := [], kwarg := none, defaults := [] }
def xB (fl : Str) (q1 q2 q3 q4 : Pos) : List Stmt := [.Assign [.Attribute (.Name "self" q1) fl q2] (.Name fl q3) q4]
def xS (fl : Str) : Scope := { kind := .function, names := [(PySem.Str.ofString "self", .local), (fl, .local)], isGenerator := false, isCoroutine := false, more := [] }
/-- what the written part says of the error's class at C (its base at P), and of its __init__, at fI -/
structure ExT (K : Frag) (mg : Str → Option Value) (x fl qual : Str) (C P fI : Addr) : Prop where
  gC : mg x = some (.ref C)
  cls : ∃ nm q N bs sn sub ab col dd k0 k1 k2 k3 k5, K.lookup C = some (excClassObj nm q C N bs (.ref P :: ESX.exTail) true sn sub ab col dd k0 k1 k2 k3 k5 "Exception.__new__")
  sa : findIn K (.ref C) "__setattr__" = some (some (.builtin "object.__setattr__"))
  noN : findIn K (.ref C) fl = some none
  iC : findIn K (.ref C) "__init__" = some (some (.ref fI))
  tC : typeIn K (.ref fI) = some (.type "function")
  kC : keepIn K (.ref C) = true
  tyC : typeIn K (.ref C) = some (.type "type")
  xf : L2.XfC K C
  fn : ∃ (oc : Value) (od : Option Addr) (kV doc pm : Value) (an : Option Addr) (cdv ct : Value) (osl : Array (Option Value)) (p1 p2 q1 q2 q3 q4 : Pos),
    K.lookup fI = some ⟨oc, od, .func (fnOf "__init__" qual (xA fl p1 p2) (xB fl q1 q2 q3 q4) (xS fl) .none kV doc pm an cdv ct), osl⟩ ∧ codeIn K cdv qual = true
theorem one_size (v : Value) : [v].length ≤ sizeLine := by
  rw [sizeLine_eq]
  exact (by decide : 1 ≤ 16777216)
/-! ### self.f = f on a fresh error -/
section
open Builtin Builtin.ObjectAttr
variable {prog : Program} {w : World} {A : Around} {E : Value → Shared → Prop} {R : Result → Shared → Prop} {hp : Heap} {g : Array GenState} {d : Drawn} {t : Nat} {os : OsState}
theorem tailP_has {C P : Addr} (X : String) (hX : ESX.exTail.contains (.type X) = true) : (Value.ref C :: .ref P :: ESX.exTail).contains (.type X) = true := by
  rw [List.contains_cons, List.contains_cons, hX, Bool.or_true, Bool.or_true]
theorem tailP_eq {P : Addr} (X : String) : (Value.ref P :: ESX.exTail).contains (.type X) = ESX.exTail.contains (.type X) := by
  rw [List.contains_cons]
  rfl
theorem osa_P {K : Frag} {name : Str} {tk : Tok} {v : Value} {x C P : Addr} {fv : Array Value} {cd : ClassData}
    (X : K.In hp) (hx : hp.get? x = some { cls := .ref C, data := .fields fv }) (hcd : clsIn K C = some cd) (hm : cd.mro = .ref C :: .ref P :: ESX.exTail) (hh : cd.hasDict = true) (ha : findIn K (.ref C) name = some none)
    (hq : ∀ h' tk' dx, (∀ b o, b ≠ x → hp.get? b = some o → h'.get? b = some o) → hp.objs.size ≤ dx → dx ≠ x → h'.get? x = some { cls := .ref C, dict := some dx, data := .fields fv } →
      h'.Ns1 dx (fun y => if y = name then some v else none) → R (.ok (.ret .none)) ⟨h', g, d, tk', os⟩) :
    codeAny (model prog w) A (.call (.builtin "object.__setattr__") ⟨[.ref x, .str name tk, v], []⟩) R ⟨hp, g, d, t, os⟩ := by
  have I : InstAt hp x { cls := .ref C, data := .fields fv } C none := ⟨hx, rfl, rfl, trivial⟩
  have hxs : x ≠ hp.objs.size := Nat.ne_of_lt (Heap.lt_size hx)
  have SF := F.store_object
  have mro : mroIn K C (.type "object") = some true := by
    unfold mroIn
    rw [hcd, Option.bind_some, hm, if_neg (show ¬ (List.isEmpty (Value.ref C :: .ref P :: ESX.exTail) = true) from Bool.false_ne_true), tailP_has "object" (by decide +kernel)]
  have sub : Looks (model prog w) hp (isInstance (.ref x) (.type "object")) true := I.type.andThen (looks_mroIn X mro)
  refine codeAny_call_builtin SF.slot.plain SF.entry (@check_slot (model prog w) _ _ ⟨hp, g, d, t, os⟩ "object.__setattr__" "object" "__setattr__" (.ref x) [.str name tk, v] [] _ SF.kind SF.split sub (SF.args (.ref x) (.str name tk) v) ?_)
  have hmr : Looks (model prog w) hp (mroOf (.ref C)) cd.mro := (looks_clsIn X hcd).andThen .now
  have L3 : Looks (model prog w) hp (storeTaker? none) none := .now
  have hpass : refuseLoop (.ref x) "__setattr__" cd.mro = pure () := by
    rw [hm, refuseLoop_ref, refuseLoop_ref]
    exact F.store_Exception.passes _
  rw [osa_eq, refuse_eq]
  refine wpAny_bind (wpAny_bind (I.type.at (wpAny_bind (hmr.at ?_))))
  rw [hpass]
  refine wpAny_pure (wpAny_bind (I.type.at (wpAny_bind ((looks_findIn X ha).at (wpAny_bind (L3.at ?_))))))
  show wpAny _ _ (storeInOwnDict (.ref x) (.ref C) (.str name tk) name v false) _ _ _
  have hcls : Looks (model prog w) hp (classData C) cd := looks_clsIn X hcd
  obtain ⟨nm, bs, mro, ns, qn, hd, sn, sb, ab, col, del⟩ := cd
  dsimp only at hh
  subst hh
  unfold storeInOwnDict ownDictForStores
  repeat (first | with_reducible refine HandSPX.store_in_new ?_ ?_ | with_reducible refine wpAny_loadPart_at hx ?_ | with_reducible refine hcls.at ?_ | wp_step)
  · exact ⟨_, #[], _, (Heap.get?_update_ne _ _ _ _ hxs.symm).trans (Heap.get?_push_at rfl rfl), rfl, fun e he => absurd he (by simp), fun _ => rfl⟩
  · intro h' tk' hn' hs
    have hx₁ : (hp.push { cls := .type "dict", data := .dict #[] }).get? x = some { cls := .ref C, data := .fields fv } := Heap.get?_push_of_some _ hx
    refine hq h' tk' hp.objs.size (fun b o hb ho => ?_) (Nat.le_refl _) hxs.symm ?_ hn'
    · exact (hs.2 b (Nat.ne_of_lt (Heap.lt_size ho))).trans ((Heap.get?_update_ne _ _ _ _ hb).trans (Heap.get?_push_of_some _ ho))
    · exact (hs.2 x hxs).trans (Heap.get?_update_self _ hx₁ rfl)
end
theorem ldX {M : Model} {s : Shared} {name : Str} {scope : Scope} {L a : Addr} {cd : Value} {m : Str → Option Value} {x : Str} {pos : Pos} {v : Value} {Q : Value → Shared → Prop} {A : Around} {E : Value → Shared → Prop} (hn : s.heap.Ns L m) (hv : m x = some v) (h : Q v s)
    (hl : (envOfC name scope L a cd).kindOf x = some .local) (hd : (x == ("__debug__" : Str)) = false) (hk : scope.kind = .function := by rfl) :
    wpAny M A (eval (.Name x pos) (envOfC name scope L a cd)) Q E s := wpAny_Name (wpAny_loadName_local hk hl hn hv h) hd
/-- what __init__ leaves of a fresh error at x -/
structure XInit (h h' : Heap) (x C dx t1 : Addr) (fl : Str) (v : Value) : Prop where
  keep : ∀ b o, b ≠ x → h.get? b = some o → h'.get? b = some o
  obj : h'.get? x = some { cls := .ref C, dict := some dx, data := .fields #[.ref t1, .none, .none, .none, .bool false, .none] }
  dbig : h.objs.size ≤ dx
  dne : dx ≠ x
  ns : h'.Ns1 dx (fun y => if y = fl then some v else none)
/-- a made error -/
structure XMade (h h' : Heap) (e C d : Addr) (fl : Str) (v : Value) : Prop where
  keep : ∀ b o, h.get? b = some o → h'.get? b = some o
  new : h.objs.size ≤ e
  obj : ∃ t1, h'.get? e = some { cls := .ref C, dict := some d, data := .fields #[.ref t1, .none, .none, .none, .bool false, .none] }
  dbig : h.objs.size ≤ d
  dne : d ≠ e
  ns : h'.Ns1 d (fun y => if y = fl then some v else none)
/-- a field's name that is no special one -/
structure FlOk (fl : Str) : Prop where
  bind : ∀ (qual : Str) (p1 p2 : Pos) (b : List Stmt) (sc : Scope) (kV doc pm : Value) (an : Option Addr) (cdv ct a v : Value), bindArgs (fnOf "__init__" qual (xA fl p1 p2) b sc .none kV doc pm an cdv ct) ⟨[a, v], []⟩ = pure [(("self" : Str), a), (fl, v)]
  all_ : ∀ a v : Value, ([(("self" : Str), a), (fl, v)].all fun y => List.lookup y.fst (xS fl).names == some NameKind.local || List.lookup y.fst (xS fl).names == some NameKind.cell) = true
  bf : ∀ (qual : Str) (L f : Addr) (cdv a v : Value), bindL (envOfC qual (xS fl) L f cdv).kindOf [(("self" : Str), a), (fl, v)] (fun _ => none) fl = some v
  bs : ∀ (qual : Str) (L f : Addr) (cdv a v : Value), bindL (envOfC qual (xS fl) L f cdv).kindOf [(("self" : Str), a), (fl, v)] (fun _ => none) "self" = some a
  ks : ∀ (qual : Str) (L f : Addr) (cdv : Value), (envOfC qual (xS fl) L f cdv).kindOf "self" = some .local
  kf : ∀ (qual : Str) (L f : Addr) (cdv : Value), (envOfC qual (xS fl) L f cdv).kindOf fl = some .local
  dbg : (fl == ("__debug__" : Str)) = false
theorem fl_value : FlOk "value" := ⟨fun _ _ _ _ _ _ _ _ _ _ _ _ _ => rfl, fun _ _ => rfl, fun _ _ _ _ _ _ => rfl, fun _ _ _ _ _ _ => rfl, fun _ _ _ _ => rfl, fun _ _ _ _ => rfl, by decide⟩
section
variable {prog : Program} {w : World} {A : Around} {E : Value → Shared → Prop} {R : Result → Shared → Prop} {s : Shared} {K : Frag} {mg : Str → Option Value} {x0 fl qual : Str} {C P fI : Addr}
theorem x_init (T : ExT K mg x0 fl qual C P fI) (hf : FlOk fl) {x t0 : Addr} {v : Value} (X : K.In s.heap) (hlim : s.heap.NoLimit) (hx : s.heap.get? x = some (excO C t0)) (hroom : A.depth < recursionLimit)
    (hq : ∀ h' tk dx, XInit s.heap h' x C dx t0 fl v → R (.ok (.ret .none)) { s with heap := h', toks := tk }) :
    codeAny (model prog w) A (.call (.ref fI) ⟨[.ref x, v], []⟩) R s := by
  obtain ⟨oc, od, kV, doc, pm, an, cdv, ct, osl, p1, p2, q1, q2, q3, q4, ho, hcd⟩ := T.fn
  obtain ⟨nm, q, N, bs, sn, sub, ab, col, dd, k0, k1, k2, k3, k5, hC⟩ := T.cls
  have hcl : clsIn K C = some { name := nm, bases := bs, mro := .ref C :: .ref P :: ESX.exTail, ns := N, qualname := q, hasDict := true, slotNames := sn, subclasses := sub, abstract := ab, collection := col, hasDel := false } := by unfold clsIn; rw [hC] <;> rfl
  refine Att.call_fn (binds := [("self", .ref x), (fl, v)]) X hlim ho hcd hroom (BindsTo.of_eq (hf.bind _ _ _ _ _ _ _ _ _ _ _ _ _)) (hf.all_ _ _) (fun s₁ IC => ?_) rfl rfl rfl
  obtain ⟨h₁, tk₁, rfl⟩ := IC.toInCall.same
  have k : ∀ b o, s.heap.get? b = some o → h₁.get? b = some o := IC.toInCall.keep
  have hn := IC.toInCall.ns
  have hxL : s.heap.objs.size ≠ x := Nat.ne_of_gt (Heap.lt_size hx)
  have X₁ : K.In h₁ := X.keeps k
  have hx₁ := k _ _ hx
  show wpAny _ _ (execs _ _) _ _ _
  refine wpAny_execs_cons (plainObj_wpAny_Assign_Attribute ?_)
  refine ldX (v := v) hn (hf.bf _ _ _ _ _ _) (ldX (v := .ref x) hn (hf.bs _ _ _ _ _ _) ?_ (hf.ks _ _ _ _) (by decide)) (hf.kf _ _ _ _) hf.dbg
  refine set_plain X₁ (ox := excO C t0) (od := none) ⟨hx₁, rfl, rfl, trivial⟩ T.sa ?_
  refine osa_P X₁ hx₁ hcl rfl rfl T.noN (fun h₃ tk₃ dx k₃ dn dne hx₃ hn₃ => ?_)
  show wpAny _ _ (execs _ _) _ _ _
  have z : s.heap.objs.size < h₁.objs.size := hn.lt
  exact wpAny_execs_nil (hq h₃ tk₃ dx ⟨fun b o hb e => k₃ b o hb (k b o e), hx₃, Nat.le_of_lt (Nat.lt_of_lt_of_le z dn), dne, hn₃⟩)
theorem x_made (T : ExT K mg x0 fl qual C P fI) (hf : FlOk fl) {v : Value} (X : K.In s.heap) (hlim : s.heap.NoLimit) (hroom : A.depth + 1 < recursionLimit)
    (hq : ∀ h' tk e d, XMade s.heap h' e C d fl v → R (.ok (.ret (.ref e))) { s with heap := h', toks := tk }) :
    codeAny (model prog w) A (.call (.ref C) ⟨[v], []⟩) R s := by
  obtain ⟨nm, q, N, bs, sn, sub, ab, col, dd, k0, k1, k2, k3, k5, hC⟩ := T.cls
  obtain ⟨hp, g, dr, tk, os⟩ := s
  have k : ∀ b o, hp.get? b = some o → ((hp.push (kdv_tup [v])).push (excO C hp.objs.size)).get? b = some o := fun b o e => Heap.get?_push_of_some _ (Heap.get?_push_of_some _ e)
  have hget : ((hp.push (kdv_tup [v])).push (excO C hp.objs.size)).get? (hp.objs.size + 1) = some (excO C hp.objs.size) := by heap_get
  refine call_own F.excBase_Exception (fun X => tailP_eq X) (X _ _ hC) (looks_findIn X T.iC) (fun self => bind_fn X self T.tC) (one_size v) ?_
  refine x_init (s := ⟨(hp.push (kdv_tup [v])).push (excO C hp.objs.size), g, dr, tk, os⟩) T hf (X.keeps k) (hlim.keeps k) hget ?_ fun h' tk' dx ⟨k', hx, dn, dne, hns⟩ => ?_
  · show A.depth + 1 < recursionLimit
    exact hroom
  · have old : ∀ b o, hp.get? b = some o → h'.get? b = some o := fun b o e => k' b o (Nat.ne_of_lt (Nat.lt_succ_of_lt (Heap.lt_size e))) (k b o e)
    have z : hp.objs.size + 1 + 1 ≤ dx := by
      first
        | (simpa only [Heap.size_push] using dn)
        | exact dn
        | (have q := dn; rw [Heap.size_push, Heap.size_push] at q; exact q)
    exact ⟨rfl, hq h' tk' (hp.objs.size + 1) dx ⟨old, Nat.le_succ _, ⟨_, hx⟩, Nat.le_trans (Nat.le_trans (Nat.le_succ _) (Nat.le_succ _)) z, dne, hns⟩⟩
end
open PySem.Spec L2
theorem relO_x {fl : Str} {v : V} {v' : Value} (r : RelV v v') (f : Str) : RelO (List.lookup f [(fl, v)]) (if f = fl then some v' else none) := by
  by_cases hw : f = fl
  · subst hw
    rw [if_pos rfl]
    have q : List.lookup f [(f, v)] = some v := by simp [List.lookup]
    rw [q]
    exact r
  · rw [if_neg hw]
    have qw : (f == fl) = false := by simpa using hw
    have q2 : List.lookup f [(fl, v)] = none := by simp [List.lookup, qw]
    rw [q2]
    trivial
section
variable {X : Cx} {C P fI : Addr} {x0 fl qual : Str}
/-- X(e) -/
def tMkX (C : Addr) (fl : Str) (ta : TA) : L2.St → Hp → XK → Prop := fun σ H Q => ta σ H fun vs H1 => ∃ v, vs = [v] ∧ ∀ d, H1 d = none → Q (.ref C) (some d) (L2.upd H1 d (.xd [(fl, v)]))
theorem pmk_x {a : Expr} {ta : TA} {p pos : Pos} {k : Nat} (T : ExT X.K X.mg x0 fl qual C P fI) (hf : FlOk fl) (hr : Room k X.A) (ha : PA X [a] ta) (hg : Gl X x0)
    (he : starEach (a :: []) X.env = (false, eval a X.env) :: starEach [] X.env := by rfl) (hpl : (backTo pos (starEach [] X.env)).any (·.1) = false := by rfl) (hdb : (x0 == ("__debug__" : Str)) = false := by decide) :
    L2N.PMk X (.Call (.Name x0 p) [a] [] pos) (tMkX C fl ta) := by
  intro pins s σ H Q I h
  refine wpAny_Call_Name_kw (ld_glob I hg T.gC ?_ hdb)
  refine callWith_K (h₀ := X.base) I.ok.mod.kin T.kC (thn (ha.run pos pins s σ H _ I h) fun us s1 hh => ?_) he hpl
  obtain ⟨vs, H1, I1, r1, v, ev, q1⟩ := hh
  subst ev
  refine ⟨I1.kIn, ?_⟩
  cases r1 with
  | cons rv rn =>
    rename_i v' us'
    cases rn
    show wpAny _ _ (call (.ref C) [v']) _ _ _
    have hlim := I1.nolimit
    obtain ⟨hp, g, dr, tk, os⟩ := s1
    refine wpAny_call (x_made T hf I1.kIn hlim (by have := hr.dp; omega) fun h' tk' e d M => ?_)
    show L2N.MkP X pins σ Q (.ref e) ⟨h', g, dr, tk', os⟩
    obtain ⟨t1, hoe⟩ := M.obj
    have hns := M.ns
    obtain ⟨G', g1, g2⟩ := restrict h' fun b => decide (b ≠ e)
    have gk : ∀ b, b ≠ e → G'.get? b = h'.get? b := fun b hb => g1 b (decide_eq_true hb)
    have ge : G'.get? e = none := g2 e (by simp)
    have old : ∀ b o, hp.get? b = some o → G'.get? b = some o := fun b o q => (gk b (Nat.ne_of_lt (Nat.lt_of_lt_of_le (Heap.lt_size q) M.new))).trans (M.keep b o q)
    have ob : ObjOk X.prog X.w (L2.upd H1 d (.xd [(fl, v)])) G' d (.xd [(fl, v)]) :=
      ⟨_, hns.at (fun o q => (gk d M.dne).trans q), fun f => relO_x rv f⟩
    have J : L2.Inv X pins σ (L2.upd H1 d (.xd [(fl, v)])) ⟨G', g, dr, tk', os⟩ := I1.laid (t' := tk') old M.dbig ob
    refine ⟨e, _, _, ⟨G', g, dr, tk', os⟩, _, .ref C, some d, rfl, J, fun b o q => ?_, ge, hoe, ⟨rfl, rfl, fun vs e => by cases e; rfl⟩, rfl, rfl, ?_, rfl, I1.bare, raises_own T.xf.exC T.tyC, q1 d (I1.hok.fresh M.dbig)⟩
    · by_cases hb : b = e
      · have q' : G'.get? b = some o := q
        rw [hb, ge] at q'; cases q'
      · exact (gk b hb).symm.trans q
    · rw [upd_ne (Ne.symm M.dne)]
      exact I1.hok.fresh M.new
/-- raise X(e) -/
def tRaiseX (C : Addr) (fl : Str) (W : WX) (ta : TA) : TS := fun _ σ H => tMkX C fl ta σ H fun cls d H' => W cls d σ H'
theorem ps_raiseX {a : Expr} {ta : TA} {W : WX} {p pos pos2 : Pos} {k : Nat} (T : ExT X.K X.mg x0 fl qual C P fI) (hf : FlOk fl) (hr : Room k X.A) (tk : L2N.Takes X W) (ha : PA X [a] ta) (hg : Gl X x0) (hc : X.calm = true := by rfl)
    (he : starEach (a :: []) X.env = (false, eval a X.env) :: starEach [] X.env := by rfl) (hpl : (backTo pos (starEach [] X.env)).any (·.1) = false := by rfl) (hdb : (x0 == ("__debug__" : Str)) = false := by decide) :
    PS X (.Raise (some (.Call (.Name x0 p) [a] [] pos)) none pos2) (tRaiseX C fl W ta)   := L2N.ps_raise hc tk (pmk_x T hf hr ha hg he hpl hdb)
end
end Ps

/-! try with several named clauses; calls whose errors are wished for at the caller's slots. -/
namespace Ps
open PySem PySem.Spec PyProof.Rows L2

/-- a clause: the class, the name's slot, the suite's reading -/
abbrev Cl : Type := Value × Nat × (Addr → Value → Option Addr → TS)
/-- the ends of a suite whose name goes behind it -/
def endsN (D : Ends) (i : Nat) : Ends := { nx := fun σ' H' => D.nx (σ'.set i none) H', rt := D.rt, bk := fun σ' H' => D.bk (σ'.set i none) H', ct := fun σ' H' => D.ct (σ'.set i none) H' }
def wN (K : PySem.W.Frag) (Wout : WX) (D : Ends) : List Cl → WX
  | [] => Wout
  | (c, i, ts) :: r => fun cls d σ H => ∃ b, PySem.W.exmOne K cls c = some b ∧ (b = true → ∀ a, H a = none → ts a cls d (endsN D i) (σ.set i (some (.ref a))) H) ∧ (b = false → wN K Wout D r cls d σ H)
inductive HdsN (X : Cx) : List ExceptHandler → List Cl → Prop
  | nil : HdsN X [] []
  | cons {x n : Str} {c : Value} {i : Nat} {ts : Addr → Value → Option Addr → TS} {b₀ : Stmt} {suite : List Stmt} {np pos' : Pos} {hds : List ExceptHandler} {l : List Cl} (hi : X.N[i]? = some n) (hln : X.env.kindOf n = some .local) (hc : Names X x c)
      (hsu : ∀ (a : Addr) (oe : Obj) (cls : Value) (d : Option Addr) (pn : List (Addr × Obj)), L2N.Zn cls d oe → (∃ vs, oe.data = .fields vs) → PSs (X.suite a ((a, oe) :: pn)) (b₀ :: suite) (ts a cls d)) (r : HdsN X hds l) :
      HdsN X (.ExceptHandler (some (.Name x np)) (some n) (b₀ :: suite) pos' :: hds) ((c, i, ts) :: l)
/-- the error has landed: s is the state, sI the one without it -/
structure Down (X : Cx) (pins : List (Addr × Obj)) (a : Addr) (B : Heap) (cls : Value) (d : Option Addr) (σ : L2.St) (H : Hp) (sI s : Shared) : Prop where
  inv : L2.Inv X pins σ H sI
  nb : ∀ b o, sI.heap.get? b = some o → b ∉ frs X.stack → B.get? b = some o
  up : sI.heap.UpToSlots s.heap
  fl : HandSPX.FlyingZ B (X.env :: X.outer) a (L2N.Zn cls d) s.heap
  na : H a = none
  os : s.os = sI.os
  ag : AllBare s.gens
section
variable {X : Cx} {pins : List (Addr × Obj)} {a : Addr} {B : Heap} {cls : Value} {d : Option Addr} {σ : L2.St} {H : Hp} {sI s : Shared} {Wout : WX} {D : Ends}
theorem Down.here (G : Down X pins a B cls d σ H sI s) : L2.Inv X pins σ H s := G.inv.landed G.nb G.fl.1 G.up G.os G.ag
theorem Down.off (G : Down X pins a B cls d σ H sI s) (hf : X.env.frame = some X.env.locals) : a ≠ X.env.locals ∧ a ∉ X.fs := by
  obtain ⟨oe, vs, he, hz, hd⟩ := G.fl.there
  have nfr : a ∉ frs (X.env :: X.outer) := fun hm => by
    obtain ⟨_, o', e', hnf⟩ := G.fl.2.2.1.mem hm
    rw [he] at e'
    cases e'
    exact hnf _ hd
  refine ⟨fun z => nfr (List.mem_filterMap.mpr ⟨X.env, List.mem_cons_self, by rw [hf, z]⟩), fun hm => ?_⟩
  obtain ⟨e, h1, q⟩ := List.mem_filterMap.mp hm
  exact nfr (List.mem_filterMap.mpr ⟨e, List.mem_cons_of_mem _ h1, q⟩)
/-- no clause is left: it goes on -/
theorem down_nil (G : Down X pins a B cls d σ H sI s) (hs : X.stack = X.env :: X.outer) (hf : X.env.frame = some X.env.locals) (tk : L2N.Takes X Wout) (w : Wout cls d σ H) : wpAny (model X.prog X.w) X.A (handleBy (.ref a) X.env []) (SP X pins D) X.xe s := by
  refine wpAny_handleBy_nil ?_
  obtain ⟨k1, k2, k3, oe, vs, T, oT, ts', he, hz, hd, h1, hr⟩ := id G.fl
  unfold PySem.passOn
  refine wpAny_bind (wpAny_field he hd h1 ?_)
  rw [if_neg (show ¬ ((Value.ref T == Value.none) = true) from by simp)]
  have fin : wpAny (model X.prog X.w) X.A (setFlight (.ref a) X.env.frame) (fun _ s4 => wpAny (model X.prog X.w) X.A (throw (.ref a) : Sem Flow) (SP X pins D) X.xe s4) X.xe s := by
    rw [hf]
    refine HandSPX.setFlight_upZ G.fl fun h4 hh4 up4 => wpAny_throw (tk _ _ ?_)
    exact ⟨a, B, sI, pins, σ, H, cls, d, rfl, G.inv, G.nb, G.up.trans up4, .inr (.inr (by rw [hs]; exact hh4)), G.na, G.os, G.ag, w⟩
  first
    | exact wpAny_bind (wpAny_pure (wpAny_bind fin))
    | exact wpAny_bind fin
/-- the clause's suite runs -/
theorem down_suite {n : Str} {i : Nat} {ts : Addr → Value → Option Addr → TS} {b₀ : Stmt} {suite : List Stmt} {pos' : Pos} {Q : Flow → Shared → Prop} {E1 E2 : Value → Shared → Prop} (G : Down X pins a B cls d σ H sI s) (hf : X.env.frame = some X.env.locals) (hN : X.N.Nodup) (hi : X.N[i]? = some n) (hln : X.env.kindOf n = some .local)
    (hsu : ∀ (a : Addr) (oe : Obj) (cls : Value) (d : Option Addr) (pn : List (Addr × Obj)), L2N.Zn cls d oe → (∃ vs, oe.data = .fields vs) → PSs (X.suite a ((a, oe) :: pn)) (b₀ :: suite) (ts a cls d))
    (w : ts a cls d (endsN D i) (σ.set i (some (.ref a))) H) (hQ : ∀ f s', SP X pins D f s' → Q f s') :
    wpAny (model X.prog X.w) (X.A.mark (some (.ref a))) (storeName X.env n (.ref a)) (fun _ s5 => wpAny (model X.prog X.w) (X.A.mark (some (.ref a))) (execs (b₀ :: suite) X.env)
      (fun f s6 => wpAny (model X.prog X.w) X.A (do bindName X.env n .none; unbindBehindTheSuite X.env n pos') (fun _ s7 => Q f s7) X.xe s6) E2 s5) E1 s := by
  obtain ⟨oe, vs, he, hz, hd⟩ := G.fl.there
  have J := G.here
  obtain ⟨nL, nF⟩ := G.off hf
  have S4 := J.suite he hd G.na nL nF
  refine store_ok (X := X.suite a ((a, oe) :: (X.pn ++ pins))) (v := .ref a) S4 hN hi (.inl hln) rfl (fun s5 S5 => ?_) (.inr hln)
  refine wpAny_mono ((hsu a oe cls d (X.pn ++ pins) hz ⟨_, hd⟩).run [] s5 _ H _ S5 w) (fun f s6 hsp => ?_) (fun _ _ z => False.elim z)
  have away : ∀ {σ6 : L2.St} {H6 : Hp}, L2.Inv (X.suite a ((a, oe) :: (X.pn ++ pins))) [] σ6 H6 s6 → (∀ s7, L2.Inv X pins (σ6.set i none) H6 s7 → SP X pins D f s7) →
      wpAny (model X.prog X.w) X.A (do bindName X.env n .none; unbindBehindTheSuite X.env n pos') (fun _ s7 => Q f s7) X.xe s6 := fun {σ6 H6} S6 hq => gone_ok (S6.unsuite J.ok) hN hi hln fun s7 J7 => hQ _ _ (hq s7 J7)
  cases f with
  | next => obtain ⟨σ6, H6, S6, q6⟩ := hsp; exact away S6 fun s7 J7 => ⟨_, _, J7, q6⟩
  | brk => obtain ⟨σ6, H6, S6, q6⟩ := hsp; exact away S6 fun s7 J7 => ⟨_, _, J7, q6⟩
  | cont => obtain ⟨σ6, H6, S6, q6⟩ := hsp; exact away S6 fun s7 J7 => ⟨_, _, J7, q6⟩
  | ret u => obtain ⟨v6, σ6, H6, S6, r6, q6⟩ := hsp; exact away S6 fun s7 J7 => ⟨_, _, _, J7, r6, q6⟩
theorem down_all (hs : X.stack = X.env :: X.outer) (hf : X.env.frame = some X.env.locals) (hN : X.N.Nodup) (tk : L2N.Takes X Wout) : ∀ {hds : List ExceptHandler} {l : List Cl}, HdsN X hds l → ∀ {s : Shared}, Down X pins a B cls d σ H sI s → wN X.K Wout D l cls d σ H →
    wpAny (model X.prog X.w) X.A (handleBy (.ref a) X.env hds) (SP X pins D) X.xe s
  | _, _, .nil, s, G, w => down_nil G hs hf tk w
  | _, _, @HdsN.cons _ x n c i ts b₀ suite np pos' hds l hi hln hc hsu r, s, G, w => by
    obtain ⟨b, hb1, hyes, hno⟩ := w
    obtain ⟨oe, vs, he, hz, hd⟩ := G.fl.there
    obtain ⟨nL, nF⟩ := G.off hf
    have S3 := G.here.suite he hd G.na nL nF
    refine wpAny_handleBy_cons (codeAny_handlers_test ?_) (by intro q; cases q)
    have LT : PySem.W.Looks (model X.prog X.w) s.heap (typeOf (.ref a)) cls := fun A Q E s k q => wpAny_typeOf_ref (k _ _ he) (by rw [hz.1]; exact q)
    have LM := PySem.W.exm_one (M := model X.prog X.w) G.here.kIn LT hb1
    have look : ∀ {Q : Value → Shared → Prop} {E : Value → Shared → Prop}, Q c s → wpAny (model X.prog X.w) (X.A.mark (some (.ref a))) (eval (.Name x np) X.env) Q E s := fun {Q E} q => by
      obtain ⟨hg, hdbg, hm | ⟨hm, hv, hnn⟩⟩ := hc
      · exact ld_glob (X := X.suite a ((a, oe) :: (X.pn ++ pins))) S3 hg hm q hdbg
      · exact ld_blt (X := X.suite a ((a, oe) :: (X.pn ++ pins))) S3 hg hm hv q hnn hdbg
    refine look (LM.here ?_)
    cases b with
    | false =>
      show wpAny _ X.A (handleBy (.ref a) X.env hds) _ _ _
      exact down_all hs hf hN tk r G (hno rfl)
    | true =>
      refine codeAny_handlers_suite_as ?_
      refine HandSPX.lands_againZ G.fl fun h4 fl4 up4 => ?_
      have G4 : Down X pins a B cls d σ H sI { s with heap := h4 } := ⟨G.inv, G.nb, G.up.trans up4, fl4, G.na, G.os, G.ag⟩
      exact down_suite G4 hf hN hi hln hsu (hyes rfl a G.na) (fun _ _ q => q)
end
section
variable {X : Cx} {body : List Stmt} {h₀ : ExceptHandler} {hds : List ExceptHandler} {l : List Cl} {pos : Pos} {tb : WX → TS} {Wout : WX}
/-- try: body / except A as n: .. / except B as n: .. -/
theorem ps_tryN (hs : X.stack = X.env :: X.outer) (hf : X.env.frame = some X.env.locals) (hN : X.N.Nodup) (tk : L2N.Takes X Wout)
    (hb : ∀ (W : WX) (pn : List (Addr × Obj)) (xe : Value → Shared → Prop), L2N.Takes (X.tr pn xe) W → PassesOwn (model X.prog X.w) X.A X.env xe → PSs (X.tr pn xe) body (tb W))
    (hh : HdsN X (h₀ :: hds) l) : PS X (.Try body (h₀ :: hds) [] [] pos) (fun D σ H => tb (wN X.K Wout D l) D σ H) := by
  refine ⟨fun pins s σ H D I h => ?_⟩
  have ok := I.ok
  have hfr : X.A.frames = some (X.env :: X.outer) := by rw [ok.frames, hs]
  refine wpAny_Try_except ?_
  have run := (hb (wN X.K Wout D l) (X.pn ++ pins) (fun e s₁ => wpAny (model X.prog X.w) X.A (noteFrame e X.env) (fun _ s₂ => wpAny (model X.prog X.w) X.A (setFlight e none) (fun _ s₃ =>
    wpAny (model X.prog X.w) X.A (handleBy e X.env (h₀ :: hds)) (SP X pins D) X.xe s₃) X.xe s₂) X.xe s₁) (fun u s' xx => ?_) PassesOwn.looking).run [] s σ H D (I.toTry _) h
  · refine wpAny_mono run (fun f s1 hsp => ?_) (fun e s1 he => he)
    cases f with
    | next => obtain ⟨σ', H', J', q⟩ := hsp; exact wpAny_execs_nil ⟨σ', H', J'.ofTry ok, q⟩
    | brk => obtain ⟨σ', H', J', q⟩ := hsp; exact ⟨σ', H', J'.ofTry ok, q⟩
    | cont => obtain ⟨σ', H', J', q⟩ := hsp; exact ⟨σ', H', J'.ofTry ok, q⟩
    | ret u => obtain ⟨v, σ', H', J', r, q⟩ := hsp; exact ⟨v, σ', H', J'.ofTry ok, r, q⟩
  · obtain ⟨a, B, sI, pins', σ', H', cls, d, rfl, J', nb, up, sky, na, os, ag, w⟩ := xx
    have sky' : Sky B (X.env :: X.outer) a (L2N.Zn cls d) X.env.locals s'.heap := by rw [← hs]; exact sky
    show wpAny (model X.prog X.w) X.A (noteFrame (.ref a) X.env) _ _ _
    refine L2N.Sky.land L2N.Zn.steady hfr hf sky' fun h3 fl3 up3 => ?_
    exact down_all hs hf hN tk hh (s := { s' with heap := h3 }) ⟨J'.ofTry ok, nb, up.trans up3, fl3, na, os, ag⟩ w
end
end Ps

/-! Defs that raise; their calls inside a try; defs called while an error is handled. -/
namespace Ps
open PySem PySem.Spec PyProof.Rows L2

/-- what leaves a def that raises: errors whose context is None -/
abbrev CXN (Z : Cz) : CXT := L2N.CX Z.P Z.w
section
variable {P : Program} {w : World} {K : PySem.W.Frag} {mg : Str → Option Value} {base : Heap}
theorem Fun.okN {x qual : Str} {st : Stmt} {f : Addr} {fd : FuncData} {N ps : List Str} {k : Nat} {sp : Sp} {CX : CXT} (F : Fun K x qual st f fd) (S : FnScope N ps (defScope st)) (len : ∀ vs H Q E, sp vs H Q E → vs.length = ps.length)
    (hbody : ∀ (cdv : Value) (A : Around) (outer : List Env) (s : Shared) (H : Hp) (vs : List V) (Q : VK) (E : XK), Room k (A.deeper (envOfC qual (defScope st) s.heap.objs.size f cdv)) → sp vs H Q E →
      ∃ t, PSs (cxOf CX P w K mg base N qual (defScope st) f cdv A outer s H E) (defBody st) t ∧ t { nx := fun _ H' => Q .non H', rt := Q } (start N vs) H) : FnOk P w K mg base CX (k + 1) f fd ps sp := by
  obtain ⟨oc, od, kV, doc, pm, an, cdv, ct, osl, rfl, lk, hcd⟩ := F.ex
  exact fn_of lk hcd S len fun A outer s H vs Q E hr hsp => hbody cdv A outer s H vs Q E hr hsp
theorem Fun.okH {x qual : Str} {st : Stmt} {f : Addr} {fd : FuncData} {N ps : List Str} {k : Nat} {sp : Sp} {CX : CXT} (F : Fun K x qual st f fd) (S : FnScope N ps (defScope st)) (len : ∀ vs H Q E, sp vs H Q E → vs.length = ps.length)
    (hbody : ∀ (cdv : Value) (A : Around) (outer : List Env) (s : Shared) (H : Hp) (vs : List V) (Q : VK) (E : XK) (p : Addr × Obj), L2H.Hot1 A p → L2H.RoomH k (A.deeper (envOfC qual (defScope st) s.heap.objs.size f cdv)) → sp vs H Q E →
      ∃ t, PSs (L2H.cxH CX P w K mg base N qual (defScope st) f cdv A outer s H E p) (defBody st) t ∧ t { nx := fun _ H' => Q .non H', rt := Q } (start N vs) H) : L2H.FnH P w K mg base CX (k + 1) f fd ps sp := by
  obtain ⟨oc, od, kV, doc, pm, an, cdv, ct, osl, rfl, lk, hcd⟩ := F.ex
  exact L2H.fn_ofH lk hcd S len fun A outer s H vs Q E p hot hr hsp => hbody cdv A outer s H vs Q E p hot hr hsp
/-- a def that raises, where it raises nothing -/
theorem okCalm {k : Nat} {f : Addr} {fd : FuncData} {ps : List Str} {sp sp' : Sp} (F : FnOk P w K mg base (L2N.CX P w) k f fd ps sp) (h : ∀ vs H Q E, sp' vs H Q E → sp vs H Q E0) : FnOk P w K mg base CX0 k f fd ps sp' := by
  refine ⟨fun vs H Q E hs => F.len vs H Q E0 (h vs H Q E hs), fun A outer s H args us vs Q E hr e0 hb r hs => ?_⟩
  refine codeAny_mono (F.run A outer s H args us vs Q E0 hr e0 hb r (h _ _ _ _ hs)) fun r s' hq => ?_
  cases r with
  | error e =>
    obtain ⟨_, _, _, _, _, _, _, _, _, _, _, _, z⟩ := hq
    exact z.elim
  | ok fl => cases fl <;> exact hq
end
/-- all errors of the def go out as they are -/
theorem passN {X : Cx} {E : XK} (tk : L2N.Takes X (fun cls d _ H => E cls d H)) : Passes (L2N.CX X.prog X.w) X E := L2N.passes_call tk fun _ _ _ _ h => h
section
variable {Z : Cz} {X : Cx} {CX : CXT} {k : Nat} {C : Addr} {ps : List Str} {sp : Sp} {dvs : List V} {E : L2.St → XK} {x m : Str} {p pos apos : Pos} {e o : Expr} {es : List Expr} {ta : TE} {t : TA}
theorem pe_calS (c : Cal Z CX k x ps dvs sp) (hr : Room k X.A) (hg : Gl X x) (hx : ∀ σ, PassesAt CX X σ (E σ)) (ha : PA X (e :: es) t) (z : InZ Z X := by exact ⟨rfl, rfl, rfl, rfl, rfl⟩)
    (hdb : (x == ("__debug__" : Str)) = false := by decide) (he : starEach (e :: es) X.env = (false, eval e X.env) :: starEach es X.env := by rfl) (hpl : (backTo pos (starEach es X.env)).any (·.1) = false := by rfl) :
    PE X (.Call (.Name x p) (e :: es) [] pos) (tCallSD sp dvs E t) := by
  obtain ⟨f, fd, ds, G, h1, h2, h3, h4⟩ := c
  exact pe_callSD (z.ok G) hr hg (by rw [z.mg]; exact h1) (by rw [z.K]; exact h2) (by rw [z.K]; exact h3) h4 hx ha hdb he hpl
def tMakeS (C : Addr) (sp : Sp) (dvs : List V) (E : L2.St → XK) (t : TA) : TE := fun σ H Q => t σ H fun vs H1 => ∀ x dx, H1 x = none → H1 dx = none → dx ≠ x →
  sp (.ref x :: (vs ++ dvs)) (upd (upd H1 dx (.own x)) x (.ins C dx [])) (fun v H2 => v = .non ∧ Q (.ref x) H2) (E σ)
theorem pe_calCS (c : CalC Z CX k C x ps dvs sp) (hr : Room (k + 1) X.A) (hg : Gl X x) (hx : ∀ σ, PassesAt CX X σ (E σ)) (ha : PA X (e :: es) t) (z : InZ Z X := by exact ⟨rfl, rfl, rfl, rfl, rfl⟩)
    (hdb : (x == ("__debug__" : Str)) = false := by decide) (he : starEach (e :: es) X.env = (false, eval e X.env) :: starEach es X.env := by rfl) (hpl : (backTo pos (starEach es X.env)).any (·.1) = false := by rfl) :
    PE X (.Call (.Name x p) (e :: es) [] pos) (tMakeS C sp dvs E t) := by
  obtain ⟨f, fd, ds, G, M, h2, hb, hd⟩ := c
  have F := z.ok G
  rw [← z.K] at M hb
  refine ⟨fun pins s σ H Q I h => ?_⟩
  refine wpAny_Call_Name_kw (ld_glob I hg (by rw [z.mg]; exact h2) ?_ hdb)
  refine PySem.W.callWith_K (h₀ := X.base) I.ok.mod.kin M.kp (thn (ha.run pos pins s σ H _ I h) fun us s1 ⟨vs, H1, I1, r, q⟩ => ⟨I1.kIn, ?_⟩) he hpl
  have q1 := q (s1.heap.objs.size + 1) s1.heap.objs.size (I1.hok.fresh (Nat.le_succ _)) (I1.hok.fresh (Nat.le_refl _)) (Nat.ne_of_lt (Nat.lt_succ_self _))
  have I2 := Inv.made (C := C) I1
  have r2 : Vals (V.ref (s1.heap.objs.size + 1) :: (vs ++ dvs)) (Value.ref (s1.heap.objs.size + 1) :: (us ++ ds)) := .cons rfl (r.append hd)
  have hl : (Value.ref (s1.heap.objs.size + 1) :: us ++ ds).length = ps.length := r2.length.symm.trans (F.len _ _ _ _ q1)
  have run := F.run _ X.stack _ _ ⟨Value.ref (s1.heap.objs.size + 1) :: us, []⟩ (Value.ref (s1.heap.objs.size + 1) :: (us ++ ds)) _ _ (E σ) (hr.make C us []) (I2.env0.make C us []) (hb _ (Value.ref (s1.heap.objs.size + 1) :: us) I2.kIn hl) r2 q1
  refine wpAny_call (make_map (f := f) I1.kIn M.makes M.init (beq_iff_eq.mp M.fn) (codeAny_mono run fun rr s' hq' => ?_))
  cases rr with
  | error e => exact hx σ pins _ _ e s' I2 hq'
  | ok fl =>
    cases fl with
    | ret u =>
      obtain ⟨v, H', I3, rv, ev, q3⟩ := I2.after hq'
      subst ev
      exact ⟨rv, ⟨V.ref (s1.heap.objs.size + 1), H', I3, rfl, q3⟩⟩
    | next => exact False.elim hq'
    | brk => exact False.elim hq'
    | cont => exact False.elim hq'
def tMethS' (C : Addr) (m : Str) (sp : Sp) (dvs : List V) (E : L2.St → XK) (ta : TE) (t : TA) : TE := fun σ H Q => ta σ H fun x H1 => ∃ a dx fs, x = .ref a ∧ H1 a = some (.ins C dx fs) ∧ fs.lookup m = none ∧
  t σ H1 fun vs H2 => sp (x :: (vs ++ dvs)) H2 Q (E σ)
theorem pe_calMS {pl : Sem Bool} (c : CalM Z CX k C m ps dvs sp) (hr : Room k X.A) (hx : ∀ σ, PassesAt CX X σ (E σ)) (he : PE X o ta) (ha : PA X (e :: es) t) (z : InZ Z X := by exact ⟨rfl, rfl, rfl, rfl, rfl⟩)
    (hst : starEach (e :: es) X.env = (false, eval e X.env) :: starEach es X.env := by rfl) (hpl : (backTo pos (starEach es X.env)).any (·.1) = false := by rfl)
    (ht : eval (.Call (.Attribute o m apos) (e :: es) [] pos) X.env = (do
      let ov ← eval o X.env
      standAt apos.atName
      let (f, first) ← holding [ov] (getMethod ov m pl)
      callWith pos f first (backTo pos (starEach (e :: es) X.env)) (backToKw pos (keywordEach [] X.env))) := by rfl) :
    PE X (.Call (.Attribute o m apos) (e :: es) [] pos) (tMethS' C m sp dvs E ta t) := by
  obtain ⟨f, fd, ds, G, hm, cl, hb, hd⟩ := c
  rw [← z.K] at hm cl hb
  refine ⟨fun pins s σ H Q I h => ?_⟩
  refine PySem.W.methodCall_KW (pl := pl) (thn (he.run pins s σ H _ I h) fun u s1 ⟨x, H1, I1, rx, a, dx, fs, ex, ea, l, q⟩ => ?_) ht
  subst ex
  obtain rfl : u = Value.ref a := rx
  refine getmeth_ok I1 ea cl hm l ?_
  refine PySem.W.callWith_K (first := [.ref a]) (h₀ := X.base) I.ok.mod.kin hm.kp (thn (ha.run pos pins s1 σ H1 _ I1 q) fun us s2 ⟨vs, H2, I2, r, q2⟩ => ⟨I2.kIn, ?_⟩) hst hpl
  exact run_fnSD (us := .ref a :: us) (vs := .ref a :: vs) (z.ok G) hr hb hd (hx σ) I2 (.cons rfl r) q2
end
/-! ### while an error is handled -/
/-- a def, called so -/
def CalH (Z : Cz) (k : Nat) (x : Str) (ps : List Str) (sp : Sp) : Prop := ∃ f fd, L2H.FnH Z.P Z.w Z.K Z.mg Z.base CX0 k f fd ps sp ∧ Z.mg x = some (.ref f) ∧ PySem.W.keepIn Z.K (.ref f) = true ∧ Binds Z.K fd ps []
def CalMH (Z : Cz) (k : Nat) (C : Addr) (m : Str) (ps : List Str) (sp : Sp) : Prop := ∃ f fd, L2H.FnH Z.P Z.w Z.K Z.mg Z.base CX0 k f fd ps sp ∧ Meth Z.K C m f ∧ Cls Z.K C ∧ Binds Z.K fd ps []
def CalSH (Z : Cz) (k : Nat) (C : Addr) (m : Str) (ps : List Str) (sp : Sp) : Prop := ∃ f fd, L2H.FnH Z.P Z.w Z.K Z.mg Z.base CX0 k f fd ps sp ∧ OwnOp Z.K C f m ∧ Binds Z.K fd ps []
theorem passAt0 {X : Cx} (σ : L2.St) : PassesAt CX0 X σ E0 := fun _ _ _ _ _ _ h => h.elim
section
variable {Z : Cz} {X : Cx} {k : Nat} {C : Addr} {ps : List Str} {sp : Sp} {x m : Str} {p pos apos : Pos} {e o : Expr} {es : List Expr} {ta : TE} {t : TA}
theorem okHz {f : Addr} {fd : FuncData} (z : InZ Z X) (G : L2H.FnH Z.P Z.w Z.K Z.mg Z.base CX0 k f fd ps sp) : L2H.FnH X.prog X.w X.K X.mg X.base CX0 k f fd ps sp := by
  obtain ⟨h1, h2, h3, h4, h5⟩ := z
  rw [h1, h2, h3, h4, h5]
  exact G
theorem pe_calH (c : CalH Z k x ps sp) (hr : L2H.RoomH k X.A) (hc : L2H.HotC X) (hg : Gl X x) (ha : PA X (e :: es) t) (z : InZ Z X := by exact ⟨rfl, rfl, rfl, rfl, rfl⟩)
    (hdb : (x == ("__debug__" : Str)) = false := by decide) (he : starEach (e :: es) X.env = (false, eval e X.env) :: starEach es X.env := by rfl) (hpl : (backTo pos (starEach es X.env)).any (·.1) = false := by rfl) :
    PE X (.Call (.Name x p) (e :: es) [] pos) (tCallS sp (fun _ => E0) t) := by
  obtain ⟨f, fd, G, h1, h2, h3⟩ := c
  exact L2H.pe_callH (okHz z G) hr hc hg (by rw [z.mg]; exact h1) (by rw [z.K]; exact h2) (by rw [z.K]; exact h3) (fun σ => passAt0 σ) ha hdb he hpl
theorem pe_calMH {pl : Sem Bool} (c : CalMH Z k C m ps sp) (hr : L2H.RoomH k X.A) (hc : L2H.HotC X) (he : PE X o ta) (ha : PA X (e :: es) t) (z : InZ Z X := by exact ⟨rfl, rfl, rfl, rfl, rfl⟩)
    (hst : starEach (e :: es) X.env = (false, eval e X.env) :: starEach es X.env := by rfl) (hpl : (backTo pos (starEach es X.env)).any (·.1) = false := by rfl)
    (ht : eval (.Call (.Attribute o m apos) (e :: es) [] pos) X.env = (do
      let ov ← eval o X.env
      standAt apos.atName
      let (f, first) ← holding [ov] (getMethod ov m pl)
      callWith pos f first (backTo pos (starEach (e :: es) X.env)) (backToKw pos (keywordEach [] X.env))) := by rfl) :
    PE X (.Call (.Attribute o m apos) (e :: es) [] pos) (L2H.tMethH C m sp (fun _ => E0) ta t) := by
  obtain ⟨f, fd, G, h1, h2, h3⟩ := c
  exact L2H.pe_methH (pl := pl) he (by rw [z.K]; exact h2) (by rw [z.K]; exact h1) (okHz z G) hr hc (by rw [z.K]; exact h3) (fun σ => passAt0 σ) ha hst hpl ht
theorem op_cmpH {op : CmpOp} (c : CalSH Z k C (cmpInfo op).2.1 ps sp) (hr : L2H.RoomH k X.A) (hc : L2H.HotC X) (z : InZ Z X := by exact ⟨rfl, rfl, rfl, rfl, rfl⟩) (hop : ∀ a b, compareOp op a b = richCompare op a b := by intro _ _; rfl) : OpR X (compareOp op) (rCmp Z.K C sp E0) := by
  obtain ⟨f, fd, G, h1, h2⟩ := c
  have z' := z
  obtain ⟨e1, e2, e3, e4, e5⟩ := z
  intro pins s σ H x y v u Q I rx ry h
  obtain ⟨⟨a, dx, fs, rfl, ha⟩, ⟨t, ty, ht⟩, h⟩ := h
  cases (show v = Value.ref a from rx)
  rw [← e3] at ty ht h1 h2
  obtain ⟨mA, J0, _⟩ := ins_get I.hok ha
  obtain ⟨od, J, _⟩ := J0.look
  obtain ⟨P, Zk, p, _⟩ := kit_of I ry ty
  obtain ⟨m, hF⟩ := I.fr
  rw [hop]
  refine PySem.W.cmp_K (by have := hr.un; omega) hF I.ok.mod.kin J (Zk.ty (model X.prog X.w) s.heap I.kIn p) ht h1.fn h1.isf ?_
  exact wpAny_mono (L2H.run_fnH (E := fun _ => E0) (us := [.ref a, u]) (vs := [.ref a, y]) (okHz z' G) hr hc h2 (passAt0 σ) I (.cons rfl (.cons ry .nil)) h) (fun _ _ z => cmpBack z) fun _ _ z => z
/-- in a suite -/
theorem hotS {a : Addr} {oe : Obj} {cls : Value} {d : Option Addr} {pn : List (Addr × Obj)} (hz : L2N.Zn cls d oe) (hf : ∃ vs, oe.data = .fields vs) : L2H.HotC (X.suite a ((a, oe) :: pn)) := by
  obtain ⟨vs, hd⟩ := hf
  exact ⟨(a, oe), ⟨rfl, vs, hd, hz.2.2 vs hd⟩, List.mem_cons_self⟩
theorem roomS {a : Addr} {pn : List (Addr × Obj)} (hr : Room k X.A) : L2H.RoomH k (X.suite a pn).A := ⟨hr.dp, hr.un⟩
/-- in a def that was called so -/
theorem hotD {CX : CXT} {P : Program} {w : World} {K : PySem.W.Frag} {mg : Str → Option Value} {base : Heap} {N : List Str} {qual : Str} {scope : Scope} {f : Addr} {cd : Value} {A : Around} {outer : List Env} {s : Shared} {H : Hp} {E : XK} {q : Addr × Obj} (h : L2H.Hot1 A q) :
    L2H.HotC (L2H.cxH CX P w K mg base N qual scope f cd A outer s H E q) := ⟨q, h, List.mem_cons_self⟩
end
end Ps

/-! Defs that are called where no repr is running (Around.guards is the empty list): they may tell the repr of lists, tuples, dicts. -/
namespace Ps
open PySem PySem.Spec PyProof.Rows L2

structure FnG (P : Program) (w : World) (K : PySem.W.Frag) (mg : Str → Option Value) (base : Heap) (CX : CXT) (k : Nat) (f : Addr) (fd : FuncData) (ps : List Str) (sp : Sp) : Prop where
  len : ∀ vs H Q E, sp vs H Q E → vs.length = ps.length
  run : ∀ (A : Around) (outer : List Env) (s : Shared) (H : Hp) (args : Args) (us : List Value) (vs : List V) (Q : VK) (E : XK), Room k A → A.guards = some [] → Env0 P w K mg base A outer s H → BindsTo s fd args (ps.zip us) → Vals vs us → sp vs H Q E →
    codeAny (model P w) A (.call (.ref f) args) (CR CX outer P w H s Q E) s
theorem guards_deeper (A : Around) (env : Env) : (A.deeper env).guards = A.guards := rfl
section
variable {P : Program} {w : World} {K : PySem.W.Frag} {mg : Str → Option Value} {base : Heap}
theorem Fun.okG {x qual : Str} {st : Stmt} {f : Addr} {fd : FuncData} {N ps : List Str} {k : Nat} {sp : Sp} {CX : CXT} (F : Fun K x qual st f fd) (S : FnScope N ps (defScope st)) (len : ∀ vs H Q E, sp vs H Q E → vs.length = ps.length)
    (hbody : ∀ (cdv : Value) (A : Around) (outer : List Env) (s : Shared) (H : Hp) (vs : List V) (Q : VK) (E : XK), Room k (A.deeper (envOfC qual (defScope st) s.heap.objs.size f cdv)) → A.guards = some [] → sp vs H Q E →
      ∃ t, PSs (cxOf CX P w K mg base N qual (defScope st) f cdv A outer s H E) (defBody st) t ∧ t { nx := fun _ H' => Q .non H', rt := Q } (start N vs) H) : FnG P w K mg base CX (k + 1) f fd ps sp := by
  obtain ⟨oc, od, kV, doc, pm, an, cdv, ct, osl, rfl, lk, hcd⟩ := F.ex
  refine ⟨len, fun A outer s H args us vs Q E hr hg e0 hb r hsp => ?_⟩
  have KX : K.In s.heap := e0.mod.kin.keeps fun b o e => (e0.bs b o e).1
  have hkind : ∀ y ∈ ps.zip us, (defScope st).names.lookup y.1 = some .local ∨ ((defScope st).names.lookup y.1 = some .cell ∧ ((cellsFrom (s.heap.objs.size + 1) (defScope st).names []).lookup y.1).isSome = true) := fun y hy =>
    (S.par y.1 (List.of_mem_zip (show (y.1, y.2) ∈ ps.zip us from hy)).1).imp id fun q => ⟨q, PySem.W.cellsFrom_some _ _ _ (.inl q)⟩
  obtain ⟨t, ht, hq⟩ := hbody cdv A outer s H vs Q E (hr.deeper _) hg hsp
  refine codeAny_call_function hr.depth (KX _ _ lk) rfl S.co S.gen rfl (PySem.W.codeRec_of KX hcd) (hb _ _ _ _ (wpAny_newFunctionEnv_cells S.kind hkind fun env he s1 x => ?_))
  subst he
  have lim : s.heap.NoLimit := e0.mod.nolimit.keeps fun b o e => (e0.bs b o e).1
  refine ⟨lim.keeps x.toInCall.keep, codeAny_func ?_⟩
  have I := inv_start (CX := CX) (E := E) S hr.hd e0 (len _ _ _ _ hsp) r x
  refine wpAny_mono (ht.run [] s1 _ H _ I hq) (fun fl s' hs => ?_) fun e s' hs => hs
  cases fl with
  | ret u => obtain ⟨v, σ', H', J, rv, q⟩ := hs; exact ⟨v, H', J.os, J.bare, J.base, J.hok, rv, q⟩
  | next => obtain ⟨σ', H', J, q⟩ := hs; exact ⟨V.non, H', J.os, J.bare, J.base, J.hok, rfl, q⟩
  | brk => obtain ⟨_, _, _, q⟩ := hs; exact False.elim q
  | cont => obtain ⟨_, _, _, q⟩ := hs; exact False.elim q
theorem FnOk.toG {CX : CXT} {k : Nat} {f : Addr} {fd : FuncData} {ps : List Str} {sp : Sp} (F : FnOk P w K mg base CX k f fd ps sp) : FnG P w K mg base CX k f fd ps sp :=
  ⟨F.len, fun A outer s H args us vs Q E hr _ e0 hb r h => F.run A outer s H args us vs Q E hr e0 hb r h⟩
end
/-- such a def -/
def CalG (Z : Cz) (CX : CXT) (k : Nat) (x : Str) (ps : List Str) (sp : Sp) : Prop := ∃ f fd, FnG Z.P Z.w Z.K Z.mg Z.base CX k f fd ps sp ∧ Z.mg x = some (.ref f) ∧ PySem.W.keepIn Z.K (.ref f) = true ∧ Binds Z.K fd ps []
section
variable {Z : Cz} {X : Cx} {CX : CXT} {k : Nat} {ps : List Str} {sp : Sp} {x : Str} {p pos : Pos} {e : Expr} {es : List Expr} {t : TA} {E : XK}
theorem pe_calG (c : CalG Z CX k x ps sp) (hr : Room k X.A) (hgd : X.A.guards = some []) (hg : Gl X x) (hx : Passes CX X E) (ha : PA X (e :: es) t) (z : InZ Z X := by exact ⟨rfl, rfl, rfl, rfl, rfl⟩)
    (hdb : (x == ("__debug__" : Str)) = false := by decide) (he : starEach (e :: es) X.env = (false, eval e X.env) :: starEach es X.env := by rfl) (hpl : (backTo pos (starEach es X.env)).any (·.1) = false := by rfl) :
    PE X (.Call (.Name x p) (e :: es) [] pos) (tCall sp [] E t) := by
  obtain ⟨f, fd, G, h1, h2, h3⟩ := c
  obtain ⟨e1, e2, e3, e4, e5⟩ := z
  rw [← e1, ← e2, ← e3, ← e4, ← e5] at G
  rw [← e4] at h1
  rw [← e3] at h2 h3
  refine ⟨fun pins s σ H Q I h => ?_⟩
  refine wpAny_Call_Name_kw (ld_glob I hg h1 ?_ hdb)
  refine PySem.W.callWith_K (h₀ := X.base) I.ok.mod.kin h2 (thn (ha.run pos pins s σ H _ I h) fun us s1 ⟨vs, H1, I1, r, q⟩ => ⟨I1.kIn, ?_⟩) he hpl
  have q : sp (vs ++ []) H1 Q E := q
  rw [List.append_nil] at q
  have hl : us.length = ps.length := r.length.symm.trans (G.len _ _ _ _ q)
  have b := h3 s1 us I1.kIn (by rw [List.append_nil]; exact hl)
  rw [List.append_nil] at b
  refine wpAny_call (codeAny_mono (G.run X.A X.stack s1 H1 ⟨us, []⟩ us vs Q E hr hgd I1.env0 b r q) fun rr s' hq => ?_)
  cases rr with
  | error e => exact hx pins σ H1 s1 e s' I1 hq
  | ok fl =>
    cases fl with
    | ret u => exact I1.after hq
    | next => exact False.elim hq
    | brk => exact False.elim hq
    | cont => exact False.elim hq
end
/-! ### repr -/
section
variable {X : Cx}
theorem reads_flat {h : Heap} {v : Value} {d : PyData} {as : List Addr} (r : Reads h v d as) : (∃ a, v = .ref a) ∨ ∀ a, v ≠ .ref a := by
  cases v <;> first | exact .inl ⟨_, rfl⟩ | exact .inr fun a z => nomatch z
def rRepr (K : PySem.W.Frag) : List V → Hp → VK → Prop := fun xs H Q => ∃ (v : V) (d : PyData), xs = [v] ∧ Dp K H v d ∧ d.showable = true ∧ d.hasDict = false ∧ d.depth ≤ 60 ∧ d.shown.length ≤ sizeLine ∧ Q (.str d.shown) H
theorem call_repr (hg : X.A.guards = some []) (hu : X.A.units + 64 < cLine) : CallR X (.builtin "repr") (rRepr X.K) := by
  intro pins s σ H xs us Q I r h
  obtain ⟨v, d, rfl, hd, hs, hn, hdp, hz, q⟩ := h
  obtain ⟨u, rfl, r1⟩ := vals1 r
  obtain ⟨as, rd⟩ := Dp.reads I d v u hd r1
  rcases reads_flat rd with ⟨a, rfl⟩ | hf
  · exact repr_of_reads' rd hs (PyData.noDict_hsm hn) hg (by omega) (fun _ _ e => e) (fun h' tu tk k => ⟨.str d.shown, H, I.kept (t' := tk) k, ⟨_, rfl⟩, q⟩) hz
  · cases hd with
    | non => cases r1; exact PySem.P.repr_of_none ⟨.str _, H, I.tok _, ⟨_, rfl⟩, q⟩
    | bl b => cases r1; exact PySem.P.repr_of_bool ⟨.str _, H, I.tok _, ⟨_, rfl⟩, q⟩
    | int i => obtain ⟨t, rfl⟩ := r1; exact PySem.P.repr_of_int (of_decide_eq_true hs) ⟨.str _, H, I.tok _, ⟨_, rfl⟩, q⟩
    | str x => obtain ⟨t, rfl⟩ := r1; exact PySem.P.repr_of_str ⟨.str _, H, I.tok _, ⟨_, rfl⟩, q⟩ hz
    | lst _ _ => cases r1; exact absurd rfl (hf _)
    | tup _ _ => cases r1; exact absurd rfl (hf _)
end
/-! ### the end of a law that is called so -/
section
variable {P : Program} {w : World} {K : PySem.W.Frag} {mg mb : Str → Option Value} {CX : CXT} {k : Nat} {fa a : Addr} {fd : FuncData} {x : Str} {sp : Sp} {s : Shared}
/-- the call over an abstract heap that tracks at most the script -/
theorem call_from {H : Hp} (KX : K.In s.heap) (hns : s.heap.Ns mainGlobals mg) (hb : s.heap.Ns builtinsNs mb) (hbb : ∀ x : Str, x ≠ "__name__" → mb x = bootBuiltins x) (hlim : s.heap.NoLimit) (hg : s.gens = #[])
    (hr : Room k callerA) (F : ∀ base : Heap, K.In base → base.Ns mainGlobals mg → FnG P w K mg base CX k fa fd [x] sp) (hbind : ∀ (s : Shared) (u : Value), BindsTo s fd ⟨[u], []⟩ [(x, u)])
    (hsp : sp [.ref a] H (fun v _ => v = .bl true) fun _ _ _ => False) (hCX : ∀ H e s', CX [] H s (fun _ _ _ => False) e s' → False)
    (hO : Only H) (hok : HOk P w H s.heap) (hK : ∀ b o, K.lookup b = some o → H b = none) (hD : ∀ b o es ep, s.heap.get? b = some o → o.data = .dict es ep → H b = none) :
    codeAny (model P w) callerA (.call (.ref fa) ⟨[.ref a], []⟩) (fun r s' => r = .ok (.ret (.bool true)) ∧ OldK s.heap s'.heap ∧ s'.os = s.os ∧ AllBare s'.gens) s := by
  have nsK : ∀ {b : Addr} {m : Str → Option Value}, s.heap.Ns b m → (hidT s.heap H).Ns b m := fun {b m} ⟨o, es, ep, e, d, r⟩ => ⟨o, es, ep, hidT_get e (hD b o es ep e d), d, r⟩
  have hKb : K.In (hidT s.heap H) := fun b o e => hidT_get (KX b o e) (hK b o e)
  obtain ⟨mc, l1, l2⟩ := hlim
  have e0 : Env0 P w K mg (hidT s.heap H) callerA [] s H :=
    ⟨rfl, ⟨hKb, nsK hns, ⟨mb, nsK hb, hbb⟩, ⟨mc, nsK l1, l2⟩⟩, fun b o e => of_hidT e, Nat.le_of_eq (hidT_size _ _), trivial, fun b hb => absurd (show b ∈ ([] : List Addr) from hb) (by simp), hok, .of_eq hg⟩
  refine codeAny_mono ((F _ hKb (nsK hns)).run callerA [] s H ⟨[.ref a], []⟩ [.ref a] [.ref a] _ _ hr rfl e0 (hbind s (.ref a)) (.cons rfl .nil) hsp) fun r s' h => ?_
  cases r with
  | error e => exact (hCX H e s' h).elim
  | ok fl =>
    cases fl with
    | next => exact False.elim h
    | brk => exact False.elim h
    | cont => exact False.elim h
    | ret u =>
      obtain ⟨v, H', os, bare, un, hok', r', q⟩ := h
      obtain rfl : v = .bl true := q
      obtain rfl : u = Value.bool true := r'
      refine ⟨rfl, OldK.of_keep fun b o e => ?_, os, bare⟩
      rcases hO b with z | ⟨ob, xs, z⟩
      · exact un.keep b o e z (fun y => absurd (show b ∈ ([] : List Addr) from y) (by simp)) (by simp)
      · obtain ⟨e1, _⟩ := hok b _ z
        obtain ⟨e2, _⟩ := hok' b _ (un.frzs b ob _ z)
        exact (Option.some.inj (e1.symm.trans e)) ▸ e2
end
theorem walk_G {l : PySem.W.OpenLaw} {n k : Nat} {q : Program} {loose : List Str} {XP : (Str → Option Value) → Heap → Prop} {YP : World → Heap → Prop} {d : DefRec} {CX : CXT} {x : Str}
    (hn : l.most = some n) (hn2 : n ≤ sizeLine) (hdf : d.params.defaults = []) (hr : Room k callerA)
    (F : ∀ (w : World) (mg : Str → Option Value) (fa : Addr) (h : Heap), YP w h → h.Ns mainGlobals mg → mg d.name = some (.ref fa) →
      ∃ (K : PySem.W.Frag) (fd : FuncData) (sp : Sp), K.In h ∧ (∀ (s : Shared) (u : Value), BindsTo s fd ⟨[u], []⟩ [(x, u)]) ∧
        (∀ (H : Hp) (a : Addr) (ns : List Int), ns.length ≤ n → Only H → SqL K H a (ns.map V.int) → sp [.ref a] H (fun v _ => v = .bl true) fun _ _ _ => False) ∧
        ∀ base : Heap, K.In base → base.Ns mainGlobals mg → FnG l.prog w K mg base CX k fa fd [x] sp)
    (hCX : ∀ (H : Hp) (s : Shared) (e : Value) (s' : Shared), CX [] H s (fun _ _ _ => False) e s' → False) :
    PySem.W.WalkO q loose XP YP l.row.toRowW d [] (fun f vs => PySem.call f vs) := by
  refine Att.attach_call hn hdf fun w s₀ s₁ mg mb fa o pm cd doc a vs ns G Y ho hd hcd hmg hobj hints hlen hg => ?_
  obtain ⟨K, fd, sp, KX, hb, hsp, hF⟩ := F w mg fa _ Y G.T.g hmg
  have rv := vals_ints hints
  have hsz : ns.length ≤ sizeLine := Nat.le_trans hlen hn2
  have noD : ∀ b o es ep, s₁.heap.get? b = some o → o.data = .dict es ep → b ≠ a := fun b o es ep e d z => by
    subst z
    rw [hobj] at e
    cases e
    exact nomatch (show Data.seq vs.toArray _ = Data.dict es ep from d)
  cases hk : K.lookup a with
  | some ob =>
    have e := KX a ob hk
    rw [hobj] at e
    cases e
    have hS : SqL K (fun _ => none) a (ns.map V.int) := .inr ⟨_, vs.toArray, _, hk, rfl, rfl, rfl, by rw [List.size_toArray, hints.length]; exact hsz, by simpa using rv⟩
    exact call_from KX G.T.g G.T.b G.T.builtins G.T.nolimit hg hr hF hb (hsp _ a ns hlen (fun _ => .inl rfl) hS) (fun H e s' => hCX H s₁ e s') (fun _ => .inl rfl) (fun b u z => by have z' : (none : Option HO) = some u := z; cases z') (fun _ _ _ => rfl) (fun _ _ _ _ _ _ => rfl)
  | none =>
    have at_ : ∀ b, (if b = a then some (HO.frz { cls := .type "list", data := .seq vs.toArray } (.lst (ns.map V.int))) else none) = none ∨ b = a := fun b => by
      by_cases h : b = a
      · exact .inr h
      · exact .inl (if_neg h)
    have hO : Only (fun b => if b = a then some (HO.frz { cls := .type "list", data := .seq vs.toArray } (.lst (ns.map V.int))) else none) := fun b => by
      by_cases h : b = a
      · exact .inr ⟨_, _, if_pos h⟩
      · exact .inl (if_neg h)
    refine call_from KX G.T.g G.T.b G.T.builtins G.T.nolimit hg hr hF hb (hsp _ a ns hlen hO (.inl (.inr ⟨{ cls := .type "list", data := .seq vs.toArray }, if_pos rfl⟩))) (fun H e s' => hCX H s₁ e s') hO (fun b u z => ?_) (fun b o e => ?_) (fun b o es ep e d => if_neg (noD b o es ep e d))
    · by_cases h : b = a
      · subst h
        cases (if_pos rfl).symm.trans z
        exact ⟨hobj, by rw [List.length_map]; exact hsz, vs, _, rv, hobj⟩
      · cases (if_neg h).symm.trans z
    · refine if_neg fun z => ?_
      subst z
      rw [hk] at e
      cases e
end Ps

/-! Words of laws that raise and tell. -/
namespace Ps
open PySem PySem.Spec PyProof.Rows PySem.W L2

theorem Same.tup {K : Frag} {H H' : Hp} {a : Addr} {xs : List V} (e : Same H H') (h : SqT K H a xs) : SqT K H' a xs := h.ext (by exact e)
theorem cxUpN {P : Program} {w : World} : StX.CXUp (L2N.CX P w) := by
  rintro outer s H s2 H2 E e s' un kp ho ⟨a, B, H', cls, d, ea, fl, hok, ub, na, os, ag, he⟩
  have fr : ∀ b o, s.heap.get? b = some o → H b = none → H2 b = none := fun b o q n => un.free b o q n (by simp)
  have ub' : UB (frs outer) H H' s.heap B s'.heap :=
    { keep := fun b o q n hb => ub.keep b o (kp b o q) (fr b o q n) hb, slot := fun b o q hb => ub.slot b o (kp b o q) hb, free := fun b o q n => ub.free b o (kp b o q) (fr b o q n), there := fun b o q hb => ub.there b o (kp b o q) hb,
      tups := fun b xs q => ub.tups b xs (un.tups b xs q), frzs := fun b o xs q => ub.frzs b o xs (un.frzs b o xs q),
      tbls := fun b ps q => by
        obtain ⟨m1, e1⟩ := un.tbls b ps q
        obtain ⟨m2, e2⟩ := ub.tbls b _ e1
        exact ⟨m1 ++ m2, by rw [e2, Array.append_assoc]⟩ }
  exact ⟨a, B, H', cls, d, ea, fl, hok, ub', na, os.trans ho, ag, he⟩
theorem pe_never {X : Cx} {e : Expr} : PE X e (fun _ _ _ => False) := ⟨fun _ _ _ _ _ _ h => h.elim⟩
mutual
theorem Dp.mono {K : Frag} {H H' : Hp} (e : Same H H') : ∀ {v : V} {d : PyData}, Dp K H v d → Dp K H' v d
  | _, _, .non => .non
  | _, _, .bl b => .bl b
  | _, _, .int i => .int i
  | _, _, .str x => .str x
  | _, _, .lst h a => .lst (e.seq h) (DpAll.mono e a)
  | _, _, .tup h a => .tup (Same.tup e h) (DpAll.mono e a)
theorem DpAll.mono {K : Frag} {H H' : Hp} (e : Same H H') : ∀ {vs : List V} {ds : List PyData}, DpAll K H vs ds → DpAll K H' vs ds
  | _, _, .nil => .nil
  | _, _, .cons h a => .cons (Dp.mono e h) (DpAll.mono e a)
end
/-- data whose repr is told -/
structure Rp (d : PyData) : Prop where
  show_ : d.showable = true
  nod : d.hasDict = false
  dep : d.depth ≤ 50
  len : d.shown.length ≤ 2000
theorem Rp.d60 {d : PyData} (h : Rp d) : d.depth ≤ 60 := Nat.le_trans h.dep (by decide)
theorem Rp.sz {d : PyData} (h : Rp d) : d.shown.length ≤ sizeLine := Nat.le_trans h.len (Nat.le_of_lt (small1000' (by decide)))
theorem takesN0 {X : Cx} : L2N.Takes X (fun _ _ _ _ => False) := fun _ _ x => by
  obtain ⟨_, _, _, _, _, _, _, _, _, _, _, _, _, _, _, _, z⟩ := x
  exact z.elim
theorem lookup_one {fl : Str} {v : V} : List.lookup fl [(fl, v)] = some v := by simp [List.lookup]
def rpB (d : PyData) : Bool := d.showable && (!d.hasDict && (decide (d.depth ≤ 50) && decide (d.shown.length ≤ 2000)))
theorem rpB_ok {d : PyData} (h : rpB d = true) : Rp d := by
  unfold rpB at h
  simp only [Bool.and_eq_true, Bool.not_eq_true', decide_eq_true_eq] at h
  exact ⟨h.1, h.2.1, h.2.2.1, h.2.2.2⟩
/-- an error of the class at C with the field fl is raised -/
def Rz (C : Addr) (fl : Str) (v : V) (H : Hp) (E : XK) : Prop := ∀ d H', Same H H' → H d = none → H' d = some (.xd [(fl, v)]) → E (.ref C) (some d) H'
theorem Rz.later {C : Addr} {fl : Str} {v : V} {H H1 : Hp} {E : XK} (h : Rz C fl v H E) (e : Same H H1) : Rz C fl v H1 E := fun d H' e' hd hx => h d H' (e.trans e') (e.free hd) hx
theorem Rz.now {C : Addr} {fl : Str} {v : V} {H : Hp} {E : XK} (h : Rz C fl v H E) : ∀ d, H d = none → E (.ref C) (some d) (L2.upd H d (.xd [(fl, v)])) := fun d hd => h d _ (Same.upd hd) hd upd_same
/-- a def called by its address -/
theorem FnOk.toR {P : Program} {w : World} {K : Frag} {mg : Str → Option Value} {base : Heap} {CX : CXT} {k : Nat} {f : Addr} {fd : FuncData} {ps : List Str} {sp : Sp} (F : FnOk P w K mg base CX k f fd ps sp) (hb : Binds K fd ps []) : FnR P w K mg base CX k f sp := by
  intro A outer s H us vs Q E hr e0 r h
  have hl : (us ++ []).length = ps.length := by rw [List.append_nil, ← r.length]; exact F.len _ _ _ _ h
  have hb' := hb s us (fun b o e => (e0.bs b o (e0.mod.kin b o e)).1) hl
  rw [List.append_nil] at hb'
  exact F.run A outer s H ⟨us, []⟩ us vs Q E hr e0 hb' r h
end Ps

/-! A lambda x: str(x) as the key of a sort; tables that grow. -/
namespace Ps
open PySem PySem.Spec PyProof.Rows PySem.W L2 LamX

/-! ### tables that grow -/
/-- all that is tracked stays, but p, and tables, which grow as they may -/
structure Gr (T : List (Addr × Str)) (p : Option Addr) (H H' : Hp) : Prop where
  x : ∀ b o, some b ≠ p → H b = some o → (∀ ps, o ≠ .tbl ps) → H' b = some o
  t : Tabs T H → Tabs T H'
  f : ∀ b, H' b = none → H b = none
abbrev Grow (T : List (Addr × Str)) : Hp → Hp → Prop := Gr T none
section
variable {T : List (Addr × Str)} {p : Option Addr} {H H1 H2 : Hp}
theorem Gr.refl (H : Hp) : Gr T p H H := ⟨fun _ _ _ h _ => h, fun h => h, fun _ h => h⟩
theorem Gr.trans (a : Gr T p H H1) (b : Gr T p H1 H2) : Gr T p H H2 := ⟨fun c o hc h n => b.x c o hc (a.x c o hc h n) n, fun h => b.t (a.t h), fun c h => a.f c (b.f c h)⟩
theorem Gr.of (e : Same H H1) : Gr T p H H1 := ⟨fun b o _ h _ => e b o h, fun h => h.ext e, fun b h => e.free h⟩
theorem Gr.up (g : Gr T none H H1) : Gr T p H H1 := ⟨fun b o _ h n => g.x b o (by simp) h n, g.t, g.f⟩
theorem Gr.new {l : Addr} {o : HO} (n : H l = none) : Gr T p H (upd H l o) := .of fun b u e => by
  rw [upd_ne (ne_of_none e n)]
  exact e
theorem Gr.at {b : Addr} {o : HO} (g : Gr T p H H1) (h : H b = some o) (hb : some b ≠ p := by simp) (n : ∀ ps, o ≠ .tbl ps := by intro _ z; cases z) : H1 b = some o := g.x b o hb h n
/-- what is no table and no code object is put -/
theorem tabs_put (t : Tabs T H1) {D : Addr} {u o : HO} (hD : H1 D = some u) (n1 : ∀ ps, u ≠ .tbl ps) (n2 : ∀ c q, u ≠ CodeO c q) : Tabs T (upd H1 D o) := fun m hm => by
  obtain ⟨ps, e1, e2, e3⟩ := t m hm
  refine ⟨ps, ?_, e2, fun pos cv hc => ?_⟩
  · rw [upd_ne fun z => n1 ps (by rw [← z, e1] at hD; exact (Option.some.inj hD).symm)]
    exact e1
  · obtain ⟨c, z1, z2⟩ := e3 pos cv hc
    refine ⟨c, z1, ?_⟩
    rw [upd_ne fun z => n2 c m.2 (by rw [← z, z2] at hD; exact (Option.some.inj hD).symm)]
    exact z2
theorem upd_free {D : Addr} {o : HO} (f : ∀ b, H1 b = none → H b = none) {b : Addr} (h : upd H1 D o b = none) : H b = none := by
  by_cases z : b = D
  · subst z
    rw [upd_same] at h
    cases h
  · rw [upd_ne z] at h
    exact f b h
theorem Gr.put (g : Gr T p H H1) {D : Addr} {xs : List V} {o : HO} (n : H D = none) (hD : H1 D = some (.lst xs)) : Gr T p H (upd H1 D o) :=
  ⟨fun b u hb h nt => by
    rw [upd_ne (ne_of_none h n)]
    exact g.x b u hb h nt, fun h => tabs_put (g.t h) hD (fun _ z => by cases z) (fun _ _ z => by cases z), fun b h => upd_free g.f h⟩
theorem Gr.putD (g : Gr T p H H1) {D : Addr} {xs : List (Key × V)} {o : HO} (n : H D = none) (hD : H1 D = some (.dK xs)) : Gr T p H (upd H1 D o) :=
  ⟨fun b u hb h nt => by
    rw [upd_ne (ne_of_none h n)]
    exact g.x b u hb h nt, fun h => tabs_put (g.t h) hD (fun _ z => by cases z) (fun _ _ z => by cases z), fun b h => upd_free g.f h⟩
/-- only p was changed -/
theorem Gr.only {l : Addr} {xs : List V} {o : HO} (hl : H l = some (.lst xs)) (hl1 : H1 l = some o) (e : ∀ b, b ≠ l → H1 b = H b) : Gr T (some l) H H1 :=
  ⟨fun b o hb h _ => by
    rw [e b fun z => hb (by rw [z])]
    exact h, fun t m hm => by
    obtain ⟨ps, e1, e2, e3⟩ := t m hm
    refine ⟨ps, ?_, e2, fun pos cv hc => ?_⟩
    · rw [e _ fun z => by rw [z, hl] at e1; cases e1]
      exact e1
    · obtain ⟨c, z1, z2⟩ := e3 pos cv hc
      refine ⟨c, z1, ?_⟩
      rw [e _ fun z => by rw [z, hl] at z2; cases z2]
      exact z2, fun b h => by
    by_cases z : b = l
    · subst z
      rw [hl1] at h
      cases h
    · rw [← e b z]
      exact h⟩
theorem Gr.seqT {K : Frag} {a : Addr} {xs : List V} (g : Gr T p H H1) (h : SqT K H a xs) (ha : some a ≠ p := by simp) : SqT K H1 a xs := by
  rcases h with (h | ⟨o, h⟩) | h
  · exact .inl (.inl (g.x _ _ ha h fun _ z => by cases z))
  · exact .inl (.inr ⟨o, g.x _ _ ha h fun _ z => by cases z⟩)
  · exact .inr h
theorem Gr.rdK {a : Addr} {kvs : List (Key × V)} (g : Gr T p H H1) (h : Rd H a (.dK kvs)) (ha : some a ≠ p := by simp) : Rd H1 a (.dK kvs) := by
  rcases h with h | ⟨o, h⟩
  · exact .inl (g.x _ _ ha h fun _ z => by cases z)
  · exact .inr ⟨o, g.x _ _ ha h fun _ z => by cases z⟩
theorem tyX_x {K : Frag} {v : V} {t : Value} (e : ∀ b o, H b = some o → (∀ ps, o ≠ .tbl ps) → H1 b = some o) (h : TyX K H v t) : TyX K H1 v t := by
  have e' : ∀ {b : Addr} {o : HO}, H b = some o → (∀ ps, o ≠ .tbl ps) → H1 b = some o := fun h n => e _ _ h n
  cases h with
  | base h =>
    refine .base ?_
    cases h with
    | non => exact .non
    | bl x => exact .bl x
    | int i => exact .int i
    | str x => exact .str x
    | flt x => exact .flt x
    | lst h => exact .lst (e' h fun _ z => by cases z)
    | frz h => exact .frz (e' h fun _ z => by cases z)
    | tup h => exact .tup (e' h fun _ z => by cases z)
    | dK h => exact .dK (e' h fun _ z => by cases z)
    | dT h => exact .dT (e' h fun _ z => by cases z)
    | ins h cl ha hn htk hm => exact .ins (e' h fun _ z => by cases z) cl ha hn htk hm
  | byt b => exact .byt b
  | set h => exact .set (e' h fun _ z => by cases z)
  | kList h c => exact .kList h c
  | kTuple h c => exact .kTuple h c
  | kDict h c => exact .kDict h c
  | fTuple h => exact .fTuple (e' h fun _ z => by cases z)
  | fDict h => exact .fDict (e' h fun _ z => by cases z)
theorem Gr.ty {K : Frag} {v : V} {t : Value} (g : Gr T none H H1) (h : TyX K H v t) : TyX K H1 v t := tyX_x (fun b o h n => g.x b o (by simp) h n) h
theorem tyX_same {K : Frag} {v : V} {t : Value} (e : Same H H1) (h : TyX K H v t) : TyX K H1 v t := tyX_x (fun b o h _ => e b o h) h
theorem Gr.seq {K : Frag} {a : Addr} {xs : List V} (g : Gr T p H H1) (h : SqL K H a xs) (ha : some a ≠ p := by simp) : SqL K H1 a xs := by
  rcases h with (h | ⟨o, h⟩) | h
  · exact .inl (.inl (g.x _ _ ha h fun _ z => by cases z))
  · exact .inl (.inr ⟨o, g.x _ _ ha h fun _ z => by cases z⟩)
  · exact .inr h
end
/-! ### function objects -/
/-- the function object at f -/
def LamO (f : Addr) (o : Obj) : HO := .ext fun h => h.get? f = some o
theorem lamO_ok {P : Program} {w : World} {H : Hp} {h : Heap} {f : Addr} {o : Obj} (e : h.get? f = some o) : ObjOk P w H h f (LamO f o) := ⟨e, ⟨o, e⟩, fun h1 h2 e1 k => k _ e1⟩
/-- lambda x: str(x) -/
structure StrL (params : Arguments) (body : Expr) (scope : Scope) : Prop where
  ex : ∃ (x : Str) (p1 p2 p3 : Pos), body = .Call (.Name "str" p1) [.Name x p2] [] p3 ∧ scope.names.lookup x = some .local ∧ scope.names.lookup ("str" : Str) = some .globalImplicit ∧ (x == ("__debug__" : Str)) = false ∧
    ∀ (q : Str) (cl : List (Str × Addr)) (pm cv ctv u : Value), bindArgs (kla_fn "<lambda>" q params body scope cl pm cv ctv) ⟨[u], []⟩ = pure [(x, u)]
  kind : scope.kind = .function
  co : scope.isCoroutine = false
  gen : scope.isGenerator = false
  own : ∀ y ∈ scope.names, y.2 ≠ .cell
  free : ∀ y ∈ scope.names, y.2 ≠ .free
/-- str(v) is the text k -/
def StrOf (P : Program) (w : World) (v : Value) (k : Str) : Prop := ∀ (A : Around) (E : Value → Shared → Prop) (s : Shared), wpAny (model P w) A (call (.type "str") [v]) (fun r s' => ∃ t tk, r = .str k t ∧ s' = { s with toks := tk }) E s
theorem strOf_str {P : Program} {w : World} {k : Str} {t : Tok} : StrOf P w (.str k t) k := fun A E s => PySem.P.str_of_str ⟨t, s.toks, rfl, rfl⟩
theorem strOf_int {P : Program} {w : World} {i : Int} {t : Tok} (h : i.natAbs.log2 < 1920) : StrOf P w (.int i t) (toString i) := fun A E s => PySem.P.str_of_int h ⟨s.toks, s.toks + 1, rfl, rfl⟩
theorem str_turn {P : Program} {w : World} {A : Around} {s : Shared} {K : Frag} {mg : Str → Option Value} {q : Str} {params : Arguments} {body : Expr} {scope : Scope} {cl : List (Str × Addr)} {pm ctv v : Value} {f c' : Addr} {k : Str}
    (L : StrL params body scope) (M : Mod K mg s.heap) (hm : mg "str" = none) (hf : s.heap.get? f = some (kla_obj "<lambda>" q params body scope cl pm c' ctv))
    (hc : ∃ (oc : Obj) (vs : Array Value) (t : Tok), s.heap.get? c' = some oc ∧ oc.data = .fields vs ∧ vs[1]? = some (.str q t)) (hd : A.depth < recursionLimit) (hk : StrOf P w v k) :
    wpAny (model P w) A (call (.ref f) [v]) (KeyPure (.str k) s) (fun _ _ => False) s := by
  obtain ⟨x, p1, p2, p3, eb, hx, hs, hdb, hbind⟩ := L.ex
  obtain ⟨oc, vs, t, hoc, hdc, hvc⟩ := hc
  refine wpAny_call (kla_callFunE hd hf rfl L.co L.gen rfl ⟨c', oc, vs, t, rfl, hoc, hdc, hvc⟩ ?_)
  rw [hbind]
  refine wpAny_pure (wpAny_newFunctionEnv L.own (fun y hy => by rw [List.mem_singleton.mp hy]; exact hx) (fun h₁ hns hsb => ⟨M.nolimit.fresh _ hsb, ?_⟩) L.kind)
  show codeAny _ _ (.expr body (envX q scope s.heap.objs.size f (.ref c') cl)) _ _
  have kp : ∀ b o, s.heap.get? b = some o → h₁.get? b = some o := fun b o e => hsb.extBut b o (Nat.ne_of_lt (Heap.lt_size e)) (Heap.get?_push_of_some _ e)
  obtain ⟨mb, hb1, hb2⟩ := M.blt
  refine kla_codeExpr ?_
  rw [eb]
  refine wpAny_Call_Name_kw (Calls.Name_function_global L.kind hs (Calls.loadGlobal_builtin (M.glob.keeps kp) hm (hb1.keeps kp) ((hb2 "str" (by decide)).trans (by rfl : bootBuiltins "str" = some (.type "str"))) ?_))
  have hv : (fun y => ([(x, v)] : List (Str × Value)).reverse.lookup y) x = some v := by simp [List.lookup]
  refine PyProof.Rows.callWith_type1 (T := "str") (Calls.spliced_cons (wpAny_Name (wpAny_loadName_local L.kind hx hns hv ?_) hdb))
  refine Calls.spliced_nil (wpAny_mono (hk _ _ _) (fun r s' ⟨t, tk, e1, e2⟩ => ?_) fun _ _ z => z)
  subst e1
  subst e2
  exact ⟨h₁, tk, rfl, kp, .str k t⟩
/-! ### sorted(x, key=f) -/
section
variable {prog : Program} {w : World} {A : Around} {E : Value → Shared → Prop} {s : Shared}
theorem args_sortedK (a v : Value) : argsOk "sorted" ⟨[a], [(Str.ofString "key", v)]⟩ := by unfold argsOk; kernel_rfl
theorem args_list_sortK (a v : Value) : argsOk "list.sort" ⟨[a], [(Str.ofString "key", v)]⟩ := by unfold argsOk; kernel_rfl
theorem collect_seq {T : String} {l : Addr} {vs : List Value} {o : Obj} {n : Nat} {Q : List Value → Shared → Prop} (hT : T = "list" ∨ T = "tuple") (ho : s.heap.get? l = some o) (hc : o.cls = .type T) (hd : o.data = .seq vs.toArray n)
    (h : ∀ h', (∀ b o, s.heap.get? b = some o → h'.get? b = some o) → Q vs { s with heap := h' }) (hsz : vs.length ≤ sizeLine) :
    wpAny (model prog w) A (collect (.ref l)) Q E s := by
  unfold collect
  refine wpAny_bind (wpAny_runValue (codeAny_builtin entry_proto_collect' ?_))
  show wpAny _ _ (do again (.builtin "list.__iadd__" ⟨[← newList [], .ref l], []⟩)) _ _ s
  refine wpAny_bind (wpAny_newList (wpAny_pure ⟨Code.quiet_builtin _ (by decide +kernel), codeAny_builtin entry_list_iadd' ?_⟩))
  show wpAny _ _ (Builtin.List.listExtendWith (.ref s.heap.objs.size) (.ref l) (.ref s.heap.objs.size)) _ _ { s with heap := s.heap.push (seqObj "list" #[] 0) }
  unfold Builtin.List.listExtendWith
  have ho' : (s.heap.push (seqObj "list" #[] 0)).get? l = some o := Heap.get?_push_of_some _ ho
  refine wpAny_bind (wpAny_typeOf (T := T) ⟨o, ho', hc⟩ ?_)
  have ht : (Value.type T == Value.type "list" || Value.type T == Value.type "tuple") = true := by
    rcases hT with e | e
    · rw [e]; decide
    · rw [e]; decide
  rw [if_pos (by
    rcases hT with e | e
    · rw [e]; simp
    · rw [e]; simp)]
  refine wpAny_bind (listItems_at ho' hd ?_)
  refine wpAny_bind (listItems_at (xs := #[]) (n := 0) (Heap.get?_push_size _ rfl) rfl ?_)
  rw [if_neg (by simp)]
  refine wpAny_bind (listUpdate_at (xs := #[]) (n := 0) (Heap.get?_push_size _ rfl) rfl ?_ (Nat.zero_le _) (by show (#[] ++ vs.toArray).size ≤ sizeLine + 1; simp only [Array.size_append, List.size_toArray, List.length_nil]; omega))
  refine wpAny_pure ?_
  show wpAny (model prog w) A (do
      let o ← load s.heap.objs.size
      match o.data with
      | .seq xs _ => pure xs.toList
      | _ => unsupported "internal:collect") Q E { s with heap := (s.heap.push (seqObj "list" #[] 0)).update s.heap.objs.size (Obj.mapSeq (· ++ vs.toArray)) }
  refine wpAny_bind (wpAny_load (get?_update_seq (Heap.get?_push_size _ rfl) _) ?_)
  show wpAny _ _ (pure ((#[] : Array Value) ++ vs.toArray).toList) Q E _
  rw [show ((#[] : Array Value) ++ vs.toArray).toList = vs by simp]
  exact wpAny_pure (h _ fun b o e => (Heap.get?_update_ne _ _ _ _ (Nat.ne_of_lt (Heap.lt_size e))).trans (Heap.get?_push_of_some _ e))
theorem sortedH {β : Type} {a q : Addr} {R : Value → β → Prop} {bs : List β} {Q : Value → Shared → Prop} (k : β → PyData) (hal : AllAlike (bs.map k)) (hk : Sortable (bs.map k)) (hL : bs.length ≤ sizeLine) (hu : ∀ x, x ∈ bs → A.units + 2 + (k x).depth < cLine)
    (col : ∀ (Q : List Value → Shared → Prop) (E : Value → Shared → Prop), (∀ h' tk vs, (∀ b o, s.heap.get? b = some o → h'.get? b = some o) → EachIs R vs bs → Q vs { s with heap := h', toks := tk }) → wpAny (model prog w) A.in1 (collect (.ref a)) Q E s)
    (turn : ∀ (v : Value) (x : β), R v x → x ∈ bs → ∀ (h : Heap) (tk : Nat), (∀ b o, s.heap.get? b = some o → h.get? b = some o) → wpAny (model prog w) A.in1.in1 (call (.ref q) [v]) (KeyPure (k x) { s with heap := h, toks := tk }) (fun _ _ => False) { s with heap := h, toks := tk })
    (h : ∀ (out : List Value) (c : Nat) (h1 h' : Heap) (tk : Nat), (∀ b o, s.heap.get? b = some o → h1.get? b = some o) → (∀ b o, h1.get? b = some o → h'.get? b = some o) → h'.get? h1.objs.size = some (seqObj "list" (List.toArray out) c) → EachIs R out (bs.mergeSort (dataLe false k)) → Q (.ref h1.objs.size) { s with heap := h', toks := tk }) :
    wpAny (model prog w) A (call (.builtin "sorted") [.ref a] [(Str.ofString "key", .ref q)]) Q E s := by
  refine call_function_entry_kw kind_sorted plain_sorted entry_sorted (args_sortedK _ _) ?_
  unfold Builtin.«sorted»
  refine wpAny_bind (m := checkCount "sorted" 1 1 _) (wpAny_pure ?_)
  refine wpAny_bind (col _ _ fun h' tk vs kp e => ?_)
  have hz : vs.length ≤ sizeLine := by rw [e.length]; exact hL
  refine wpAny_bind (wpAny_newList ?_ hz)
  have hoL : (h'.push (seqObj "list" vs.toArray 0)).get? h'.objs.size = some (seqObj "list" vs.toArray 0) := Heap.get?_push_size _ rfl
  have kp2 : ∀ {g : Heap}, KeepsBut h'.objs.size (h'.push (seqObj "list" vs.toArray 0)) g → ∀ b o, s.heap.get? b = some o → g.get? b = some o := fun {g} k b o e =>
    k b o (Nat.ne_of_lt (Heap.lt_size (kp b o e))) (Heap.get?_push_of_some _ (kp b o e))
  show wpAny _ _ _ _ _ { s with heap := h'.push (seqObj "list" vs.toArray 0), toks := tk }
  refine wpAny_bind (wpAny_holding (wpAny_call_entry_kw slot_list_sort ⟨_, hoL, rfl⟩ entry_list_sort ?_ (args_list_sortK _ _)))
  rw [ksk_t1]
  refine keyH_tree (kz := bs.map k) (s := { s with heap := h'.push (seqObj "list" vs.toArray 0), toks := tk }) hoL (by rw [List.length_map]; exact e.length.symm) hz hal hk (bound_map (A := A.in1.in1) hu)
    (keyH_turns (s := { s with heap := h'.push (seqObj "list" vs.toArray 0), toks := tk }) e fun v x hR hx h3 tk3 kp3 => turn v x hR hx h3 tk3 (kp2 kp3)) fun h3 tk3 out c kp3 hD ko => ⟨_, rfl, ?_⟩
  exact wpAny_pure ⟨_, rfl, h out c h' h3 tk3 kp (fun b o q => kp3 b o (Nat.ne_of_lt (Heap.lt_size q)) (Heap.get?_push_of_some _ q)) hD (keyedOut_each k ko e)⟩
end
/-! ### at the hand layer -/
/-- f is a lambda x: str(x) -/
def KeyL (H : Hp) (f : Addr) : Prop := ∃ (q : Str) (params : Arguments) (body : Expr) (scope : Scope) (cl : List (Str × Addr)) (pm ctv : Value) (c' : Addr), StrL params body scope ∧ H f = some (LamO f (kla_obj "<lambda>" q params body scope cl pm c' ctv)) ∧ H c' = some (CodeO c' q)
/-- items that are texts, or small ints, by their texts -/
def KTx (v : V) (k : Str) : Prop := v = .str k ∨ ∃ i : Int, v = .int i ∧ i.natAbs.log2 < 1920 ∧ k = toString i
/-- v is walked: xs -/
def Itr (K : Frag) (H : Hp) (a : Addr) (xs : List V) : Prop := SqL K H a xs ∨ SqT K H a xs ∨ ∃ kvs : List (Key × V), Rd H a (.dK kvs) ∧ xs = kvs.map fun kv => kV kv.1
theorem vals_each : ∀ {xs : List V} {us : List Value}, Vals xs us → EachIs (fun u x => RelV x u) us xs
  | _, _, .nil => .nil
  | _, _, .cons a r => .cons a (vals_each r)
theorem each_vals : ∀ {xs : List V} {us : List Value}, EachIs (fun u x => RelV x u) us xs → Vals xs us
  | _, _, .nil => .nil
  | _, _, .cons a r => .cons a (each_vals r)
/-- the order of a sort by texts -/
def leTx (k : V → Str) (a b : V) : Bool := dataLe false (fun x => PyData.str (k x)) a b
section
variable {X : Cx}
theorem call_sortedStr {k : V → Str} (hcalm : X.calm = true) (hm : X.mg "str" = none) (hr : Room 1 X.A) : CallRK X (.builtin "sorted") [Str.ofString "key"] (fun xs zs H Q => ∃ (a f : Addr) (ys : List V), xs = [.ref a] ∧ zs = [.ref f] ∧ KeyL H f ∧ Itr X.K H a ys ∧ (∀ y ∈ ys, KTx y (k y)) ∧
    ∀ p, H p = none → Q (.ref p) (upd H p (.lst (ys.mergeSort (leTx k))))) := by
  intro pins s σ H xs zs us ws Q I r rz q
  obtain ⟨a, f, ys, ex, ez, hf, hi, hk, q⟩ := q
  subst ex
  subst ez
  obtain ⟨u, eu, rx⟩ := vals1 r
  subst eu
  cases rx
  obtain ⟨u, eu, rx⟩ := vals1 rz
  subst eu
  cases rx
  obtain ⟨qn, params, body, scope, cl, pm, ctv, c', L, hfo, hco⟩ := hf
  have hfo' := (I.hok f _ hfo).1
  obtain ⟨oc, vs, t, hoc, hdc, hvc⟩ := (I.hok c' _ hco).1
  have col : ys.length ≤ sizeLine ∧ ∀ (Q : List Value → Shared → Prop) (E : Value → Shared → Prop), (∀ h' tk vs, (∀ b o, s.heap.get? b = some o → h'.get? b = some o) → EachIs (fun u x => RelV x u) vs ys → Q vs { s with heap := h', toks := tk }) → wpAny (model X.prog X.w) X.A.in1 (collect (.ref a)) Q E s := by
    rcases hi with hi | hi | ⟨kvs, hd, ey⟩
    · obtain ⟨its, r', pl, hz⟩ := I.list hi
      have hlen := r'.length
      obtain ⟨o, ho, hc, n, hd⟩ := pl.isList
      exact ⟨hz, fun Q E h => collect_seq (.inl rfl) ho hc hd (fun h' kp => h h' s.toks its kp (vals_each r')) (by omega)⟩
    · obtain ⟨its, r', pl, hz⟩ := I.tuple hi
      have hlen := r'.length
      obtain ⟨o, ho, hc, n, hd⟩ := pl
      exact ⟨hz, fun Q E h => collect_seq (.inr rfl) ho hc hd (fun h' kp => h h' s.toks its kp (vals_each r')) (by omega)⟩
    · obtain ⟨z, lo, vs, rel, dd⟩ := dk_rd I.hok hd
      obtain ⟨ep, hat⟩ := dd.dictAt
      have ek : (kvs.map fun kv => kV kv.1) = vs.map fun p => kV p.1 := by
        have e := congrArg (List.map kV) rel.keys
        rw [List.map_map, List.map_map] at e
        exact e
      refine ⟨by rw [ey, List.length_map]; exact z, fun Q E h => kdu_collect (A := X.A.in1) (kdl_dict (knd := mixKind X.prog X.w) (kvs := vs) (ep := ep) lo) (I.ok.hd hcalm) hat (by rw [← rel.length]; exact z) fun h' tk acc hk hacc => ?_⟩
      refine h h' tk acc.toList hk ?_
      rw [ey, ek]
      exact vals_each (keys_at (by rw [Array.length_toList]; exact hacc.1) fun j v e => hacc.2 j v (by rw [← Array.getElem?_toList]; exact e))
  refine sortedH (R := fun u x => RelV x u) (bs := ys) (fun x => PyData.str (k x)) (.of fun _ _ => rfl) (.others fun b => ⟨by simp, by simp⟩) col.1 (fun x _ => ?_) col.2 (fun v x hR hx h tk kp => ?_) fun out c h1 h' tk k1 k2 e1 e2 => ?_
  · have := hr.units
    show X.A.units + 2 + 0 < cLine
    omega
  · refine str_turn (k := k x) (mg := X.mg) (K := X.K) (s := { s with heap := h, toks := tk }) L ?_ hm (kp _ _ hfo') ⟨oc, vs, t, kp _ _ hoc, hdc, hvc⟩ hr.depth ?_
    · obtain ⟨m1, m2, ⟨mb, m3, m4⟩, m5⟩ := I.mod
      exact ⟨m1.keeps fun b o e => kp b o (I.bk b o e), m2.keeps fun b o e => kp b o (I.bk b o e), ⟨mb, m3.keeps fun b o e => kp b o (I.bk b o e), m4⟩, m5.keeps fun b o e => kp b o (I.bk b o e)⟩
    · rcases hk x hx with e | ⟨i, e, hb, e2⟩
      · rw [e] at hR
        obtain ⟨t, rfl⟩ := hR
        exact strOf_str
      · rw [e] at hR
        obtain ⟨t, rfl⟩ := hR
        rw [e2]
        exact strOf_int hb
  · have I1 : Inv X pins σ H { s with heap := h1, toks := tk } := I.kept k1
    refine ⟨.ref h1.objs.size, _, I1.laid (t' := tk) k2 (Nat.le_refl _) (show ObjOk X.prog X.w _ h' _ (.lst (ys.mergeSort (leTx k))) from ⟨?_, out, c, each_vals e2, e1⟩), rfl, q _ (I1.hok.fresh (Nat.le_refl _))⟩
    rw [List.length_mergeSort]
    exact col.1
/-- what the maker of lambdas with the code object cd knows -/
structure Mkr (Z : Cz) (T : List (Addr × Str)) (cd : Value) (q : Str) : Prop where
  ex : ∃ c P, cd = .ref c ∧ TabB Z.base Z.mg c P ∧ (P, q) ∈ T ∧ ∀ p ∈ T, p.1 = P → p.2 = q
def tLamK (T : List (Addr × Str)) : TE := fun σ H Q => Tabs T H ∧ ∀ f H1, Grow T H H1 → Tabs T H1 → KeyL H1 f → Q (.ref f) H1
theorem pe_lamK {Z : Cz} {T : List (Addr × Str)} {params : Arguments} {body : Expr} {scope : Scope} {pos : Pos} (M : Mkr Z T X.env.code (X.env.qual ++ "<lambda>")) (L : StrL params body scope) (hdef : defaultsOf params X.env = ([], []) := by rfl) (z : InZ Z X := by exact ⟨rfl, rfl, rfl, rfl, rfl⟩) : PE X (.Lambda params body scope pos) (tLamK T) := by
  obtain ⟨c, P, hcd, TB, hm, hu⟩ := M.ex
  rw [← z.base, ← z.mg] at TB
  refine ⟨fun pins s σ H Q I h => ?_⟩
  obtain ⟨hT, h⟩ := h
  obtain ⟨ps, hP, ht, ha⟩ := hT _ hm
  have hP' : s.heap.get? P = some { cls := .none, data := .fields ps } := I.hok P _ hP
  refine kla_eval hdef ?_
  have clo := closure_ok (env := X.env) (scope := scope) fun y hy e => absurd e (L.free y hy)
  cases hc : codeAmong pos ps.toList with
  | some cv =>
    obtain ⟨c', e, hco⟩ := ha pos cv hc
    subst e
    refine kla_makeFunctionHit (c := c) (ps := ps) clo I.ok.glob (I.mod.glob.keeps I.bk) hcd (TB.code.keeps I.bk) hP' ht hc (TB.bm.keeps I.bk) fun ctv h' tk hx hsz => ?_
    have I1 : Inv X pins σ H { s with heap := h', toks := tk } := I.kept hx
    have n : H h'.objs.size = none := I1.hok.fresh (Nat.le_refl _)
    have g : Grow T H (upd H h'.objs.size (LamO h'.objs.size (kla_obj "<lambda>" (X.env.qual ++ "<lambda>") params body scope (cloFrom X.env.cells scope.names []) ((X.mg "__name__").getD .none) c' ctv))) := .new n
    exact ⟨.ref h'.objs.size, _, I1.laid (t' := tk) (fun b o e => Heap.get?_push_of_some _ e) (Nat.le_refl _) (lamO_ok (Heap.get?_push_size _ rfl)), rfl, h _ _ g (g.t hT) ⟨_, _, _, _, _, _, _, _, L, upd_same, g.x _ _ (by simp) hco codeO_ne⟩⟩
  | none =>
    refine kla_makeFunction (c := c) (ps := ps) clo I.ok.glob (I.mod.glob.keeps I.bk) hcd (TB.code.keeps I.bk) hP' ht hc TB.gP (TB.bm.keeps I.bk) fun c' ctv h' tk hx hge hlt hrec htb => ?_
    obtain ⟨c2, oc, vs, t, e2, hoc, hd, hv⟩ := hrec
    cases e2
    have nC : H c' = none := I.hok.fresh hge
    have I1 := inv_table (t' := tk) (more := #[rawInt pos.line, rawInt pos.col, .ref c']) I hP hx htb hge ⟨oc, vs, t, hoc, hd, hv⟩
    have n := I1.hok.fresh (Nat.le_refl h'.objs.size)
    have g1 : ExtN H (upd (upd H P (.tbl (ps ++ #[rawInt pos.line, rawInt pos.col, .ref c']))) c' (CodeO c' (X.env.qual ++ "<lambda>"))) := fun b o e nt => by
      have nb : b ≠ P := fun z => nt ps (Option.some.inj (e.symm.trans (by rw [z]; exact hP)))
      rw [upd_ne (ne_of_none e nC), upd_ne nb]
      exact e
    have t1 : Tabs T (upd (upd H P (.tbl (ps ++ #[rawInt pos.line, rawInt pos.col, .ref c']))) c' (CodeO c' (X.env.qual ++ "<lambda>"))) := fun p hp => by
      by_cases hb : p.1 = P
      · have eL : (ps ++ #[rawInt pos.line, rawInt pos.col, .ref c']).toList = ps.toList ++ [rawInt pos.line, rawInt pos.col, .ref c'] := by simp
        rw [hu p hp hb, hb]
        refine ⟨_, (upd_ne (ne_of_none hP nC)).trans upd_same, eL ▸ PySem.TriplesOk_snoc _ _ _ _ ht, fun p' cv hcv => ?_⟩
        rcases among_app _ ht (eL ▸ hcv) with z | z
        · obtain ⟨c0, e1, e2⟩ := ha p' cv z
          exact ⟨c0, e1, g1 _ _ e2 codeO_ne⟩
        · exact ⟨c', z, upd_same⟩
      · obtain ⟨ps', a1, a2, a3⟩ := hT p hp
        refine ⟨ps', (upd_ne (ne_of_none a1 nC)).trans ((upd_ne hb).trans a1), a2, fun p' cv hcv => ?_⟩
        obtain ⟨c0, e1, e2⟩ := a3 p' cv hcv
        exact ⟨c0, e1, g1 _ _ e2 codeO_ne⟩
    have g := (Gr.mk (fun b o _ => g1 b o) (fun _ => t1) (fun b h => upd_free (H := H) (fun b h => upd_free (H := H) (fun _ h => h) h) h) : Grow T H _).trans (.new (o := LamO h'.objs.size (kla_obj "<lambda>" (X.env.qual ++ "<lambda>") params body scope (cloFrom X.env.cells scope.names []) ((X.mg "__name__").getD .none) c' ctv)) n)
    refine ⟨.ref h'.objs.size, _, I1.laid (t' := tk) (fun b o e => Heap.get?_push_of_some _ e) (Nat.le_refl _) (lamO_ok (Heap.get?_push_size _ rfl)), rfl, h _ _ g (g.t hT) ⟨_, _, _, _, _, _, _, _, L, upd_same, ?_⟩⟩
    rw [upd_ne (ne_of_none upd_same n)]
    exact upd_same
end
end Ps

/-! The end of a law whose defs make lambdas: tables of code objects stand outside the known heap. -/
namespace Ps
open PySem PySem.Spec PyProof.Rows PySem.W L2 He LamX

abbrev tab0 : Obj := { cls := .none, data := .fields #[] }
section
variable {P : Program} {w : World} {K : Frag} {mg mb : Str → Option Value} {CX : CXT} {k : Nat} {fa a : Addr} {fd : FuncData} {x : Str} {sp : Sp} {s : Shared} {cs : List (Addr × Addr)}
/-- the call over an abstract heap that tracks at most the script and the tables -/
theorem call_fromT {H : Hp} (KX : K.In s.heap) (hns : s.heap.Ns mainGlobals mg) (hb : s.heap.Ns builtinsNs mb) (hbb : ∀ x : Str, x ≠ "__name__" → mb x = bootBuiltins x) (hlim : s.heap.NoLimit) (hg : s.gens = #[])
    (hT : ∀ p ∈ cs, s.heap.get? p.2 = some tab0) (C : ∀ p ∈ cs, CodeHd s.heap p.1 p.2)
    (hbm : ∃ (bm : Addr) (ob : Obj), mg "__builtins__" = some (.ref bm) ∧ bm ≠ builtinsNs ∧ s.heap.get? bm = some ob ∧ ob.cls = .type "module" ∧ ob.dict = some builtinsNs ∧ ob.data = .plain)
    (hr : Room k callerA) (F : ∀ base : Heap, K.In base → base.Ns mainGlobals mg → (∀ p ∈ cs, TabB base mg p.1 p.2) → FnG P w K mg base CX k fa fd [x] sp) (hbind : ∀ (s : Shared) (u : Value), BindsTo s fd ⟨[u], []⟩ [(x, u)])
    (hsp : sp [.ref a] H (fun v _ => v = .bl true) fun _ _ _ => False) (hCX : ∀ H e s', CX [] H s (fun _ _ _ => False) e s' → False)
    (hH : ∀ p ∈ cs, H p.2 = some (.tbl #[])) (hO : ∀ b, H b = none ∨ (∃ p ∈ cs, p.2 = b) ∨ ∃ o xs, H b = some (.frz o (.lst xs))) (hok : HOk P w H s.heap) (hK : ∀ b o, K.lookup b = some o → H b = none)
    (hN : ∀ b o, s.heap.get? b = some o → (∀ vs n, o.data ≠ .seq vs n) → o.data ≠ .fields #[] → H b = none) :
    codeAny (model P w) callerA (.call (.ref fa) ⟨[.ref a], []⟩) (fun r s' => r = .ok (.ret (.bool true)) ∧ OldK s.heap s'.heap ∧ s'.os = s.os ∧ AllBare s'.gens) s := by
  have nsK : ∀ {b : Addr} {m : Str → Option Value}, s.heap.Ns b m → (hidT s.heap H).Ns b m := fun {b m} ⟨o, es, ep, e, d, r⟩ => ⟨o, es, ep, hidT_get e (hN b o e (fun _ _ z => by rw [d] at z; cases z) fun z => by rw [d] at z; cases z), d, r⟩
  have hKb : K.In (hidT s.heap H) := fun b o e => hidT_get (KX b o e) (hK b o e)
  obtain ⟨mc, l1, l2⟩ := hlim
  have TB : ∀ p ∈ cs, TabB (hidT s.heap H) mg p.1 p.2 := fun p hp => by
    have hTp := hT p hp
    obtain ⟨og, eg, epg, e0, d0, _⟩ := hns
    refine ⟨?_, ?_, fun z => ?_⟩
    · obtain ⟨o, us, file, tf, flags, tg, inF, text, tt, e1, r1, r2, r3, rest⟩ := C p hp
      have n1 : H p.1 = none := hN _ o e1 (fun vs n z => by rw [r2] at z; cases z) fun z => by
        rw [r2] at z
        cases z
        simp at r3
      exact ⟨o, us, file, tf, flags, tg, inF, text, tt, hidT_get e1 n1, r1, r2, r3, rest⟩
    · obtain ⟨bm, ob, b1, b2, b3, b4, b5, b6⟩ := hbm
      refine ⟨bm, ob, b1, b2, fun q => ?_, fun q => ?_, hidT_get b3 (hN bm ob b3 (fun vs n z => by rw [b6] at z; cases z) fun z => by rw [b6] at z; cases z), b4, b5, b6⟩
      · rw [q, e0] at b3
        cases b3
        rw [d0] at b6
        cases b6
      · rw [q, hTp] at b3
        cases b3
        cases b6
    · rw [z, hTp] at e0
      cases e0
      cases d0
  have e0 : Env0 P w K mg (hidT s.heap H) callerA [] s H :=
    ⟨rfl, ⟨hKb, nsK hns, ⟨mb, nsK hb, hbb⟩, ⟨mc, nsK l1, l2⟩⟩, fun b o e => of_hidT e, Nat.le_of_eq (hidT_size _ _), trivial, fun b hb => absurd (show b ∈ ([] : List Addr) from hb) (by simp), hok, .of_eq hg⟩
  refine codeAny_mono ((F _ hKb (nsK hns) TB).run callerA [] s H ⟨[.ref a], []⟩ [.ref a] [.ref a] _ _ hr rfl e0 (hbind s (.ref a)) (.cons rfl .nil) hsp) fun r s' h => ?_
  cases r with
  | error e => exact (hCX H e s' h).elim
  | ok fl =>
    cases fl with
    | next => exact False.elim h
    | brk => exact False.elim h
    | cont => exact False.elim h
    | ret u =>
      obtain ⟨v, H', os, bare, un, hok', r', q⟩ := h
      obtain rfl : v = .bl true := q
      obtain rfl : u = Value.bool true := r'
      have grown : ∀ p ∈ cs, ∃ more : Array Value, s'.heap.get? p.2 = some { cls := .none, data := .fields more } := fun p hp => by
        obtain ⟨more, z⟩ := un.tbls p.2 #[] (hH p hp)
        exact ⟨_, hok' p.2 _ z⟩
      refine ⟨rfl, ⟨fun b o e => ?_, fun b o e => ?_⟩, os, bare⟩
      · rcases hO b with z | ⟨p, hp, z⟩ | ⟨ob, xs, z⟩
        · exact .inl (un.keep b o e z (fun y => absurd (show b ∈ ([] : List Addr) from y) (by simp)) (by simp))
        · obtain ⟨more, hm⟩ := grown p hp
          subst z
          rw [hT p hp] at e
          cases e
          refine .inr (.inl ⟨((C p hp).tab (hT p hp)).isCodeTable, rfl, #[], more, rfl, ?_⟩)
          rw [Array.empty_append]
          exact hm
        · obtain ⟨e1, _⟩ := hok b _ z
          obtain ⟨e2, _⟩ := hok' b _ (un.frzs b ob _ z)
          exact .inl ((Option.some.inj (e1.symm.trans e)) ▸ e2)
      · rcases hO b with z | ⟨p, hp, z⟩ | ⟨ob, xs, z⟩
        · exact ⟨o, un.keep b o e z (fun y => absurd (show b ∈ ([] : List Addr) from y) (by simp)) (by simp)⟩
        · obtain ⟨more, hm⟩ := grown p hp
          subst z
          exact ⟨_, hm⟩
        · obtain ⟨e2, _⟩ := hok' b _ (un.frzs b ob _ z)
          exact ⟨_, e2⟩
end
theorem walk_GT {l : OpenLaw} {n k : Nat} {q : Program} {loose : List Str} {XP : (Str → Option Value) → Heap → Prop} {YP : World → Heap → Prop} {d : DefRec} {CX : CXT} {x : Str}
    (hn : l.most = some n) (hn2 : n ≤ sizeLine) (hdf : d.params.defaults = []) (hr : Room k callerA)
    (F : ∀ (w : World) (mg : Str → Option Value) (fa : Addr) (h : Heap), YP w h → h.Ns mainGlobals mg → mg d.name = some (.ref fa) →
      ∃ (K : Frag) (fd : FuncData) (sp : Sp) (cs : List (Addr × Addr)), K.In h ∧ (∀ p ∈ cs, h.get? p.2 = some tab0) ∧ (∀ p ∈ cs, K.lookup p.2 = none) ∧ (∀ p ∈ cs, CodeHd h p.1 p.2) ∧ (∀ (s : Shared) (u : Value), BindsTo s fd ⟨[u], []⟩ [(x, u)]) ∧
        (∀ (H : Hp) (a : Addr) (ns : List Int), ns.length ≤ n → (∀ p ∈ cs, H p.2 = some (.tbl #[])) → SqL K H a (ns.map V.int) → sp [.ref a] H (fun v _ => v = .bl true) fun _ _ _ => False) ∧
        ∀ base : Heap, K.In base → base.Ns mainGlobals mg → (∀ p ∈ cs, TabB base mg p.1 p.2) → FnG l.prog w K mg base CX k fa fd [x] sp)
    (hCX : ∀ (H : Hp) (s : Shared) (e : Value) (s' : Shared), CX [] H s (fun _ _ _ => False) e s' → False) :
    WalkO q loose XP YP l.row.toRowW d [] (fun f vs => PySem.call f vs) := by
  refine Att.attach_call hn hdf fun w s₀ s₁ mg mb fa o pm cd doc a vs ns G Y ho hd hcd hmg hobj hints hlen hg => ?_
  obtain ⟨K, fd, sp, cs, KX, hT, nT, C, hb, hsp, hF⟩ := F w mg fa _ Y G.T.g hmg
  have rv := vals_ints hints
  have hsz : ns.length ≤ sizeLine := Nat.le_trans hlen hn2
  have aT : ¬ ∃ p ∈ cs, p.2 = a := fun ⟨p, hp, z⟩ => by
    have q := hT p hp
    rw [z, hobj] at q
    have z' : Data.seq vs.toArray _ = Data.fields #[] := congrArg Obj.data (Option.some.inj q)
    cases z'
  let fz : HO := .frz { cls := .type "list", data := .seq vs.toArray } (.lst (ns.map V.int))
  have core : ∀ H : Hp, (∀ b, (∃ p ∈ cs, p.2 = b) → H b = some (.tbl #[])) → (∀ b, b ≠ a → (¬ ∃ p ∈ cs, p.2 = b) → H b = none) → (H a = none ∨ (H a = some fz ∧ K.lookup a = none)) → SqL K H a (ns.map V.int) →
      codeAny (model l.prog w) callerA (.call (.ref fa) ⟨[.ref a], []⟩) (fun r s' => r = .ok (.ret (.bool true)) ∧ OldK s₁.heap s'.heap ∧ s'.os = s₁.os ∧ AllBare s'.gens) s₁ := by
    intro H h1 h2 h3 hS
    refine call_fromT KX G.T.g G.T.b G.T.builtins G.T.nolimit hg hT C G.T.bmain hr hF hb (hsp H a ns hlen (fun p hp => h1 _ ⟨p, hp, rfl⟩) hS) (fun H e s' => hCX H s₁ e s') (fun p hp => h1 _ ⟨p, hp, rfl⟩) (fun b => ?_) (fun b u z => ?_) (fun b o e => ?_) (fun b o e n1 n2 => ?_)
    · by_cases hb1 : ∃ p ∈ cs, p.2 = b
      · exact .inr (.inl hb1)
      · by_cases hb2 : b = a
        · subst hb2
          rcases h3 with z | ⟨z, _⟩
          · exact .inl z
          · exact .inr (.inr ⟨_, _, z⟩)
        · exact .inl (h2 b hb2 hb1)
    · by_cases hb1 : ∃ p ∈ cs, p.2 = b
      · rw [h1 b hb1] at z
        cases z
        obtain ⟨p, hp, e⟩ := hb1
        rw [← e]
        exact hT p hp
      · by_cases hb2 : b = a
        · subst hb2
          rcases h3 with y | ⟨y, _⟩
          · rw [y] at z
            cases z
          · rw [y] at z
            cases z
            exact ⟨hobj, by rw [List.length_map]; exact hsz, vs, _, rv, hobj⟩
        · rw [h2 b hb2 hb1] at z
          cases z
    · by_cases hb1 : ∃ p ∈ cs, p.2 = b
      · obtain ⟨p, hp, z⟩ := hb1
        rw [← z, nT p hp] at e
        cases e
      · by_cases hb2 : b = a
        · subst hb2
          rcases h3 with y | ⟨_, y⟩
          · exact y
          · rw [y] at e
            cases e
        · exact h2 b hb2 hb1
    · by_cases hb1 : ∃ p ∈ cs, p.2 = b
      · obtain ⟨p, hp, z⟩ := hb1
        rw [← z, hT p hp] at e
        cases e
        exact absurd rfl n2
      · by_cases hb2 : b = a
        · subst hb2
          rw [hobj] at e
          cases e
          exact absurd rfl (n1 _ _)
        · exact h2 b hb2 hb1
  cases hk : K.lookup a with
  | some ob =>
    have e := KX a ob hk
    rw [hobj] at e
    cases e
    have hS : ∀ H : Hp, SqL K H a (ns.map V.int) := fun H => .inr ⟨_, vs.toArray, _, hk, rfl, rfl, rfl, by rw [List.size_toArray, hints.length]; exact hsz, by simpa using rv⟩
    classical
    exact core (fun b => if ∃ p ∈ cs, p.2 = b then some (.tbl #[]) else none) (fun b h => if_pos h) (fun b _ h => if_neg h) (.inl (if_neg aT)) (hS _)
  | none =>
    classical
    refine core (fun b => if ∃ p ∈ cs, p.2 = b then some (.tbl #[]) else if b = a then some fz else none) (fun b h => if_pos h) (fun b h1 h2 => (if_neg h2).trans (if_neg h1)) (.inr ⟨(if_neg aT).trans (if_pos rfl), hk⟩) (.inl (.inr ⟨_, (if_neg aT).trans (if_pos rfl)⟩))
/-! ### the hook -/
def tabO (K : Frag) (m : At) : Option (Addr × Addr) := match K.lookup (m.a K) with
  | some ⟨_, _, .func fd, _⟩ => (match fd.code with
    | .ref c => (match K.lookup c with
      | some ⟨_, _, .fields vs, _⟩ => (match (vs[11]? : Option Value) with
        | some (.ref P) => some (c, P)
        | _ => none)
      | _ => none)
    | _ => none)
  | _ => none
theorem tabO_code {K : Frag} {m : At} {c P : Addr} (h : tabO K m = some (c, P)) {oc : Value} {od : Option Addr} {fd : FuncData} {osl : Array (Option Value)} (e : K.lookup (m.a K) = some ⟨oc, od, .func fd, osl⟩) : fd.code = .ref c := by
  unfold tabO at h
  rw [e] at h
  have h2 : (match fd.code with
    | .ref c => (match K.lookup c with
      | some ⟨_, _, .fields vs, _⟩ => (match (vs[11]? : Option Value) with
        | some (.ref P) => some (c, P)
        | _ => none)
      | _ => none)
    | _ => none) = some (c, P) := h
  split at h2
  · rename_i c0 ec
    split at h2
    · split at h2
      · cases h2
        exact ec
      · cases h2
    · cases h2
  · cases h2
def isTab (o : Option Obj) : Bool := match o with
  | some ⟨.none, none, .fields vs, sl⟩ => vs.toList.isEmpty && sl.toList.isEmpty
  | _ => false
theorem isTab_ok {o : Option Obj} (h : isTab o = true) : o = some tab0 := by
  unfold isTab at h
  split at h
  · rename_i vs sl
    obtain ⟨h1, h2⟩ := ba h
    have e1 : vs = #[] := by simpa using h1
    have e2 : sl = #[] := by simpa using h2
    rw [e1, e2]
  · cases h
/-- the makers' code objects and tables -/
def tabsOf (mk : List (At × Str)) (K : Frag) : List (Addr × Addr) := mk.filterMap fun m => tabO K m.1
def tabsT (mk : List (At × Str)) (K : Frag) : List (Addr × Str) := mk.filterMap fun m => (tabO K m.1).map fun p => (p.2, m.2)
theorem lookup_mem {a : Addr} {o : Obj} : ∀ {K : Frag}, K.lookup a = some o → (a, o) ∈ K
  | [], h => by cases h
  | (b, u) :: K, h => by
    have h' : (match a == b with | true => some u | false => K.lookup a) = some o := h
    cases e : (a == b) with
    | true =>
      rw [e] at h'
      rw [beq_iff_eq.mp e, Option.some.inj h']
      exact List.mem_cons_self ..
    | false =>
      rw [e] at h'
      exact List.mem_cons_of_mem _ (lookup_mem h')
def dropF (ts : List Addr) (K : Frag) : Frag := K.filter fun p => !ts.contains p.1
theorem dropF_no {ts : List Addr} {K : Frag} {a : Addr} {o : Obj} (h : (dropF ts K).lookup a = some o) : ts.contains a = false := by
  have h2 := (List.mem_filter.mp (lookup_mem h)).2
  cases e : ts.contains a with
  | true => rw [e] at h2; cases h2
  | false => rfl
theorem dropF_at {ts : List Addr} : ∀ {K : Frag} {a : Addr} {o : Obj}, (dropF ts K).lookup a = some o → K.lookup a = some o
  | [], _, _, h => by cases h
  | (b, u) :: K, a, o, h => by
    have hn := dropF_no h
    unfold dropF at h
    rw [List.filter_cons] at h
    show (match a == b with | true => some u | false => K.lookup a) = some o
    cases e : (a == b) with
    | true =>
      have e' : a = b := beq_iff_eq.mp e
      subst e'
      rw [if_pos (by rw [hn]; rfl)] at h
      have h' : (match a == a with | true => some u | false => (dropF ts K).lookup a) = some o := h
      rw [e] at h'
      exact h'
    | false =>
      by_cases hb : (!ts.contains b) = true
      · rw [if_pos hb] at h
        have h' : (match a == b with | true => some u | false => (dropF ts K).lookup a) = some o := h
        rw [e] at h'
        exact dropF_at h'
      · rw [if_neg hb] at h
        exact dropF_at (ts := ts) h
def dropK {α : Type} (ts : List Addr) : Frag → (Frag → α) → α
  | [], k => k []
  | (a, o) :: r, k => match ts.contains a with
    | true => dropK ts r k
    | false => dropK ts r fun K => k ((a, o) :: K)
theorem dropK_eq {α : Type} (ts : List Addr) : ∀ (K : Frag) (k : Frag → α), dropK ts K k = k (dropF ts K)
  | [], _ => rfl
  | (a, o) :: r, k => by
    unfold dropK dropF
    rw [List.filter_cons]
    cases e : ts.contains a with
    | true =>
      show dropK ts r k = _
      rw [dropK_eq ts r k, if_neg (by decide)]
      rfl
    | false =>
      show dropK ts r _ = _
      rw [dropK_eq ts r _, if_pos (show (!false) = true from rfl)]
      rfl
def uniqB (mk : List (At × Str)) (K : Frag) : Bool := mk.all fun m => mk.all fun m' => match tabO K m.1, tabO K m'.1 with
  | some (_, P), some (_, P') => !(P == P') || m.2 == m'.2
  | _, _ => true
def mkB (mk : List (At × Str)) (K0 K : Frag) : Bool := (tabsOf mk K).all (fun p => isTab (K0.lookup p.2) && (codeHdIn K p.1 p.2 && (K.lookup p.2).isNone)) && (mk.all (fun m => (tabO K m.1).isSome) && uniqB mk K)
def obsM (fn : List DefP) (ex : Frag → Bool) (mk : List (At × Str)) (K0 : Frag) : AlP := dropK ((tabsOf mk K0).map (·.2)) K0 fun K => (mkB mk K0 K && (ex K && fn.all fun d => d.ok K), fn.map fun d => fnP K (d.at_.a K))
/-- what is known of the makers' tables -/
structure TabsH (mk : List (At × Str)) (K : Frag) (h : Heap) : Prop where
  tab : ∀ p ∈ tabsOf mk K, h.get? p.2 = some tab0
  out : ∀ p ∈ tabsOf mk K, K.lookup p.2 = none
  code : ∀ p ∈ tabsOf mk K, CodeHd h p.1 p.2
  some_ : ∀ m ∈ mk, ∃ c P, tabO K m.1 = some (c, P)
  uniq : uniqB mk K = true
theorem obsM_ok {fn : List DefP} {ex : Frag → Bool} {mk : List (At × Str)} {K0 : Frag} {h : Heap} (X : K0.In h) (e : obsM fn ex mk K0 = valP fn) : ∃ K : Frag, K.In h ∧ SaysP fn ex K ∧ TabsH mk K h := by
  unfold obsM at e
  rw [dropK_eq] at e
  have XK : (dropF ((tabsOf mk K0).map (·.2)) K0).In h := fun a o q => X a o (dropF_at q)
  generalize dropF ((tabsOf mk K0).map (·.2)) K0 = K at e XK
  have e1 : (mkB mk K0 K && (ex K && fn.all fun d => d.ok K)) = true := congrArg (fun z : AlP => z.1) e
  have e2 : (fn.map fun d => fnP K (d.at_.a K)) = fn.map DefP.val := congrArg (fun z : AlP => z.2) e
  obtain ⟨c1, c2⟩ := ba e1
  refine ⟨K, XK, ?_, ?_⟩
  · show obsP fn ex K = valP fn
    unfold obsP valP
    rw [c2, e2]
  · obtain ⟨t1, t2⟩ := ba c1
    obtain ⟨t3, t4⟩ := ba t2
    have at_ : ∀ p ∈ tabsOf mk K, isTab (K0.lookup p.2) = true ∧ codeHdIn K p.1 p.2 = true ∧ (K.lookup p.2).isNone = true := fun p hp => by
      obtain ⟨a1, a2⟩ := ba (List.all_eq_true.mp t1 p hp)
      exact ⟨a1, ba a2⟩
    exact ⟨fun p hp => X _ _ (isTab_ok (at_ p hp).1), fun p hp => Option.isNone_iff_eq_none.mp (at_ p hp).2.2, fun p hp => codeHd_of_K XK (at_ p hp).2.1, fun m hm => by
      obtain ⟨q, hq⟩ := Option.isSome_iff_exists.mp (List.all_eq_true.mp t3 m hm)
      exact ⟨q.1, q.2, hq⟩, t4⟩
theorem TabsH.keeps {mk : List (At × Str)} {K : Frag} {h h' : Heap} (t : TabsH mk K h) (k : ∀ b o, h.get? b = some o → h'.get? b = some o) : TabsH mk K h' :=
  ⟨fun p hp => k _ _ (t.tab p hp), t.out, fun p hp => (t.code p hp).keeps k, t.some_, t.uniq⟩
def obsTG (n : Nat) (fn : List DefP) (ex : Frag → Bool) (mk : List (At × Str)) (g : Addr → Option Obj) : AlP := outQ g (obsM fn ex mk) n [mainGlobals] 0 (frG g [cStatics])
def hookT (n : Nat) (fn : List DefP) (ex : Frag → Bool) (mk : List (At × Str)) : Hook where
  α := AlP
  obs := fun s => obsTG n fn ex mk s.heap.get?
  val := fun _ => valP fn
  says := fun _ h => ∃ K : Frag, K.In h ∧ SaysP fn ex K ∧ TabsH mk K h
  of := fun _ s e => outQ_ok (g := s.heap.get?) (Φ := fun z => z = valP fn → ∃ K : Frag, K.In s.heap ∧ SaysP fn ex K ∧ TabsH mk K s.heap) (fun acc q z => obsM_ok q z) n _ 0 _ (goodQ_nil _) e
  keeps := fun _ _ _ ⟨K, hK, c, t⟩ k => ⟨K, Frag.In.keeps hK k, c, t.keeps k⟩
theorem obsTG_eq {n : Nat} {fn : List DefP} {ex : Frag → Bool} {mk : List (At × Str)} {g : Addr → Option Obj} {s : Shared} (h : ∀ a, g a = s.heap.get? a) : obsTG n fn ex mk g = (hookT n fn ex mk).obs s := by
  have e : g = s.heap.get? := funext h
  rw [e] <;> rfl
/-- a maker -/
theorem TabsH.mkr {mk : List (At × Str)} {h : Heap} {Z : Cz} {m : At} {q : Str} {f : Addr} {oc : Value} {od : Option Addr} {fd : FuncData} {osl : Array (Option Value)} (t : TabsH mk Z.K h) (hB : ∀ p ∈ tabsOf mk Z.K, TabB Z.base Z.mg p.1 p.2) (hm : (m, q) ∈ mk) (hf : f = m.a Z.K)
    (e : Z.K.lookup f = some ⟨oc, od, .func fd, osl⟩) : Mkr Z (tabsT mk Z.K) fd.code q := by
  obtain ⟨c, P, ht⟩ := t.some_ _ hm
  subst hf
  refine ⟨c, P, tabO_code ht e, hB (c, P) (List.mem_filterMap.mpr ⟨_, hm, ht⟩), List.mem_filterMap.mpr ⟨_, hm, by rw [ht]; rfl⟩, fun p hp ep => ?_⟩
  obtain ⟨m', hm', e'⟩ := List.mem_filterMap.mp hp
  cases q' : tabO Z.K m'.1 with
  | none => rw [q'] at e'; cases e'
  | some z =>
    rw [q'] at e'
    have e2 : (z.2, m'.2) = p := Option.some.inj e'
    have u := List.all_eq_true.mp (List.all_eq_true.mp t.uniq _ hm) _ hm'
    have u2 : (match tabO Z.K m, tabO Z.K m'.1 with
      | some (_, P), some (_, P') => !(P == P') || q == m'.2
      | _, _ => true) = true := u
    rw [ht, q'] at u2
    have u3 : (!(P == z.2) || q == m'.2) = true := u2
    have e3 : z.2 = P := by rw [← e2] at ep; exact ep
    rw [e3] at u3
    have u4 : q = m'.2 := by simpa using u3
    rw [← e2]
    exact u4.symm
theorem tabs_start {mk : List (At × Str)} {K : Frag} {H : Hp} (h : ∀ p ∈ tabsOf mk K, H p.2 = some (.tbl #[])) : Tabs (tabsT mk K) H := fun p hp => by
  obtain ⟨m, hm, e⟩ := List.mem_filterMap.mp hp
  cases q : tabO K m.1 with
  | none => rw [q] at e; cases e
  | some z =>
    rw [q] at e
    have e2 : (z.2, m.2) = p := Option.some.inj e
    rw [← e2]
    exact TabS.nil (h z (List.mem_filterMap.mpr ⟨m, hm, q⟩))
theorem Got.mkr {mk : List (At × Str)} {h : Heap} {Z : Cz} {x q : Str} {st : Stmt} {f : Addr} {fd : FuncData} (t : TabsH mk Z.K h) (hB : ∀ p ∈ tabsOf mk Z.K, TabB Z.base Z.mg p.1 p.2) (hm : (.g x, q) ∈ mk) (X : Z.K.In h) (G : h.Ns mainGlobals Z.mg) (g : Got Z.K Z.mg x st f fd) (ha : Z.mg x = some (.ref (ga Z.K x))) : Mkr Z (tabsT mk Z.K) fd.code q := by
  have e : f = ga Z.K x := by
    have := g.m.symm.trans ha
    cases this
    rfl
  obtain ⟨oc, od, kV, doc, pm, an, cdv, ct, osl, rfl, lk, hcd⟩ := g.F.ex
  exact t.mkr hB hm e lk
end Ps

/-! What a step keeps, as a relation; comprehensions by it; draws without counting. -/
namespace Ps
open PySem PySem.Spec PyProof.Rows PySem.W L2 LamX

/-- a relation of heaps that lets new objects come, and lists that came since -/
structure HR (G : Hp → Hp → Prop) (ok : Addr → Prop) : Prop where
  refl : ∀ H, G H H
  trans : ∀ {H H1 H2}, G H H1 → G H1 H2 → G H H2
  new : ∀ {H l o}, H l = none → G H (upd H l o)
  put : ∀ {H H1 D xs ys}, G H H1 → H D = none → H1 D = some (.lst xs) → G H (upd H1 D (.lst ys))
  lst : ∀ {H H1 a xs}, G H H1 → ok a → H a = some (.lst xs) → H1 a = some (.lst xs)
theorem hr_same : HR Same fun _ => True := ⟨Same.refl, fun a b => a.trans b, fun h => Same.upd h, fun a n _ b o e => by
  rw [upd_ne (ne_of_none e n)]
  exact a b o e, fun g _ h => g _ _ h⟩
section
variable {T : List (Addr × Str)} {p : Option Addr}
theorem hr_gr : HR (Gr T p) fun a => some a ≠ p := ⟨Gr.refl, fun a b => a.trans b, fun h => Gr.new h, fun a n h => a.put n h, fun g h e => g.at e h⟩
end
/-! ### draws -/
/-- a pool, wherever its place is -/
def Pl (H : Hp) (p q : Addr) (ms : List Int) : Prop := (∃ i : Nat, H p = some (.lst [.ref q, .int i])) ∧ H q = some (.lst (ms.map V.int))
theorem Pl.ne {H : Hp} {p q : Addr} {ms : List Int} (h : Pl H p q ms) : q ≠ p := by
  obtain ⟨⟨i, h1⟩, h2⟩ := h
  refine ne_of h2 h1 fun z => ?_
  have z := HO.lst.inj z
  cases ms with
  | nil => cases z
  | cons m r => cases (List.cons.inj z).1
theorem Pl.of {H : Hp} {p q : Addr} {ms : List Int} {i : Nat} (h : Pool H p q ms i) : Pl H p q ms := ⟨⟨i, h.at_⟩, h.nums⟩
structure Gp (T : List (Addr × Str)) (p q : Addr) (ms : List Int) (H H' : Hp) : Prop where
  g : Gr T (some p) H H'
  pl : Pl H p q ms → Pl H' p q ms
section
variable {T : List (Addr × Str)} {p q : Addr} {ms : List Int} {H H1 H2 : Hp}
theorem Gp.refl (H : Hp) : Gp T p q ms H H := ⟨Gr.refl H, fun h => h⟩
theorem Gp.trans (a : Gp T p q ms H H1) (b : Gp T p q ms H1 H2) : Gp T p q ms H H2 := ⟨a.g.trans b.g, fun h => b.pl (a.pl h)⟩
theorem Pl.gr (g : Gr T none H H1) (h : Pl H p q ms) : Pl H1 p q ms := by
  obtain ⟨⟨i, h1⟩, h2⟩ := h
  exact ⟨⟨i, g.at h1⟩, g.at h2⟩
theorem Gp.of (g : Gr T none H H1) : Gp T p q ms H H1 := ⟨g.up, fun h => h.gr g⟩
theorem Gp.same (e : Same H H1) : Gp T p q ms H H1 := .of (.of e)
theorem Gp.at {b : Addr} {o : HO} (g : Gp T p q ms H H1) (h : H b = some o) (hb : b ≠ p) (n : ∀ ps, o ≠ .tbl ps := by intro _ z; cases z) : H1 b = some o := g.g.at h (by intro z; exact hb (Option.some.inj z)) n
theorem hr_gp : HR (Gp T p q ms) fun a => a ≠ p := ⟨Gp.refl, fun a b => a.trans b, fun h => .same (Same.upd h), fun a n h => ⟨a.g.put n h, fun h0 => by
  obtain ⟨⟨i, h1⟩, h2⟩ := a.pl h0
  obtain ⟨⟨_, g1⟩, g2⟩ := h0
  exact ⟨⟨i, by rw [upd_ne (ne_of_none g1 n)]; exact h1⟩, by rw [upd_ne (ne_of_none g2 n)]; exact h2⟩⟩, fun g h e => g.at e h⟩
end
/-- a draw -/
def spDr (T : List (Addr × Str)) : Sp := fun vs H Q _ => ∃ (p q : Addr) (ms : List Int) (n : Int), vs = [.ref p, .int n] ∧ Pl H p q ms ∧ 0 < n ∧ ∀ r H', 0 ≤ r → r < n → Gp T p q ms H H' → Q (.int r) H'
theorem ok_dr {Z : Cz} {f : Addr} {fd : FuncData} {TT : List (Addr × Str)} (F : Fun Z.K "_law_draw" "_law_draw" s_lw_draw f fd) (T : DrT Z) : Z.ok CX0 1 f fd ["_law_pool_here", "_law_many"] (spDr TT) := by
  refine F.ok sc_lw_draw (fun vs H Q E h => ?_) (fun cdv A outer s H vs Q E hr h => ?_)
  · obtain ⟨p, q, ms, n, rfl, _⟩ := h
    rfl
  · obtain ⟨p, q, ms, n, rfl, hP, hn, k⟩ := h
    have hne := hP.ne
    obtain ⟨⟨i, h1⟩, h2⟩ := hP
    refine ⟨_, (pss_cons (ps_set (i := 2) sc_lw_draw.nd rfl (Or.inl rfl) (pe_ix ix_list (pv 0) pe_int (fun _ _ => rfl)))
      (pss_cons (ps_asg (pe_op op_add (pv 2) pe_int) (pg_sub (pv 0) pe_int set_list))
      (pss_one (ps_ret (pe_ifExp (pt_cmpR op_lt (pv 2) (pe_callB call_len_seq (by rfl) T.len PySem.boot_len (pa_cons (pe_ix ix_list (pv 0) pe_int (fun _ _ => rfl)) pa_nil)) (nomark _)) (pe_op op_mod (pe_int1 (by rfl) T.int (pe_ix ix_list (pe_ix ix_list (pv 0) pe_int (fun _ _ => rfl)) (pv 2) (fun _ _ => rfl))) (pv 1)) pe_int))))), ?_⟩
    refine ⟨_, rfl, p, _, _, _, rfl, rfl, SqL.of h1, rfl, ?_⟩
    refine ⟨_, rfl, _, _, rfl, rfl, _, rfl, p, _, _, 1, rfl, rfl, h1, rfl, ?_⟩
    have hu : (upd H p (.lst [.ref q, .int ((i : Int) + 1)])) p = some (.lst [.ref q, .int ((i : Int) + 1)]) := upd_same
    have hq : (upd H p (.lst [.ref q, .int ((i : Int) + 1)])) q = some (.lst (ms.map V.int)) := by rw [upd_ne hne]; exact h2
    have hG : Gp TT p q ms H (upd H p (.lst [.ref q, .int ((i : Int) + 1)])) := ⟨.only h1 hu fun b hb => upd_ne hb, fun _ => ⟨⟨i + 1, hu⟩, hq⟩⟩
    refine ⟨_, rfl, _, rfl, p, _, _, _, rfl, rfl, SqL.of hu, rfl, q, _, rfl, .inl (SqL.of hq), _, _, rfl, rfl, _, rfl, iteD (fun hlt => ?_) (fun hge => ?_)⟩
    · rw [List.length_map] at hlt
      have hlt' : i < ms.length := by omega
      refine ⟨_, rfl, p, _, _, _, rfl, rfl, SqL.of hu, rfl, _, rfl, q, _, _, V.int ms[i], rfl, rfl, SqL.of hq, ?_, _, rfl, _, rfl, _, _, rfl, rfl, hn, ?_⟩
      · exact atI_nat (by rw [List.getElem?_map, List.getElem?_eq_getElem hlt']; rfl)
      · exact k _ _ (Int.emod_nonneg _ (by omega)) (Int.emod_lt_of_pos _ hn) hG
    · exact k 0 _ (Int.le_refl 0) hn hG
/-! ### comprehensions -/
theorem wipe_one (σ : L2.St) (i : Nat) (x : V) : wipe ((wipe σ [i]).set i (some x)) [i] = wipe σ [i] := by
  show (((σ.set i none).set i (some x)).set i none) = σ.set i none
  rw [List.set_set, List.set_set]
section
variable {G : Hp → Hp → Prop} {ok : Addr → Prop} {J : It} {n : Nat} {Gd : Hp → Prop} {Y : Nat → Hp → V → Hp → Prop} {P : Nat → V → Prop} {te : TE} {i : Nat} {σ : L2.St} {H1 : Hp} {D : Addr} {Qd : Hp → Prop}
/-- results that are known before -/
theorem lcF (hG : HR G ok) (w : Walk J n Gd Y) (hy : ∀ i H x H', Y i H x H' → H' = H ∧ P i x) {ys : List V} (hn : ys.length = n) (hz : n ≤ 100000) (hD : H1 D = none) (hok : ok D) (hGd : ∀ H2, G H1 H2 → Gd H2)
    (step : ∀ j x y H2 (Qe : VK), P j x → ys[j]? = some y → G H1 H2 → (∀ H3, G H2 H3 → Qe y H3) → te ((wipe σ [i]).set i (some x)) H2 Qe) (fin : ∀ H2, G H1 H2 → H2 D = some (.lst ys) → Qd H2) :
    ∃ W : Nat → Nat → Hp → Prop, (∃ m, W 0 m (upd H1 D (.lst []))) ∧ ∀ k m H, W k m H →
      (J.stop k H ∧ Qd H) ∨ (J.go k H ∧ ∃ Nx : Hp → Prop, (∀ H', Nx H' → ∃ m', m' < m ∧ W (k + 1) m' H') ∧ ∀ x H', J.yld k H x H' → gName i x (wipe σ [i]) H' fun σ2 H2 => wipe σ2 [i] = wipe σ [i] ∧ tYes σ2 H2 fun b H3 =>
        if b = true then te σ2 H3 fun y H4 => ∃ acc, H4 D = some (.lst acc) ∧ acc.length < sizeLine ∧ Nx (upd H4 D (.lst (acc ++ [y]))) else Nx H3) := by
  refine lc_it w (fun j H' => G H1 H' ∧ H' D = some (.lst (ys.take j))) ⟨hG.new hD, upd_same⟩ (fun j H' _ h => hGd _ h.1) ?_ (fun H' h => ?_)
  · rintro j x H2 H' hj ⟨g, hl⟩ y
    obtain ⟨rfl, px⟩ := hy j H2 x H' y
    refine ⟨wipe_one σ i x, ?_⟩
    have hj' : j < ys.length := by omega
    refine step j x ys[j] _ _ px (List.getElem?_eq_getElem hj') g fun H3 g3 => ⟨ys.take j, hG.lst g3 hok hl, ?_, hG.put (hG.trans g g3) hD (hG.lst g3 hok hl), ?_⟩
    · rw [List.length_take]
      exact small1000' (by omega)
    · rw [upd_same, List.take_succ, List.getElem?_eq_getElem hj']
      rfl
  · rw [← hn, List.take_length] at h
    exact fin H' h.1 h.2
/-- results told by a relation -/
theorem lcR (hG : HR G ok) (w : Walk J n Gd Y) (hy : ∀ i H x H', Y i H x H' → H' = H ∧ P i x) {β : Type} {bs : List β} (R : V → β → Hp → Prop) (hn : bs.length = n) (hz : n ≤ 100000) (hD : H1 D = none) (hok : ok D) (hGd : ∀ H2, G H1 H2 → Gd H2)
    (stab : ∀ y b H2 H3, R y b H2 → G H2 H3 → R y b H3) (stabD : ∀ y b H2 xs zs, R y b H2 → H2 D = some (.lst xs) → R y b (upd H2 D (.lst zs)))
    (step : ∀ j x b H2 acc (Qe : VK), P j x → bs[j]? = some b → G H1 H2 → H2 D = some (.lst acc) → (∀ y H3, G H2 H3 → R y b H3 → Qe y H3) → te ((wipe σ [i]).set i (some x)) H2 Qe)
    (fin : ∀ H2 ys, G H1 H2 → H2 D = some (.lst ys) → Al (fun y b => R y b H2) ys bs → Qd H2) :
    ∃ W : Nat → Nat → Hp → Prop, (∃ m, W 0 m (upd H1 D (.lst []))) ∧ ∀ k m H, W k m H →
      (J.stop k H ∧ Qd H) ∨ (J.go k H ∧ ∃ Nx : Hp → Prop, (∀ H', Nx H' → ∃ m', m' < m ∧ W (k + 1) m' H') ∧ ∀ x H', J.yld k H x H' → gName i x (wipe σ [i]) H' fun σ2 H2 => wipe σ2 [i] = wipe σ [i] ∧ tYes σ2 H2 fun b H3 =>
        if b = true then te σ2 H3 fun y H4 => ∃ acc, H4 D = some (.lst acc) ∧ acc.length < sizeLine ∧ Nx (upd H4 D (.lst (acc ++ [y]))) else Nx H3) := by
  refine lc_it w (fun j H' => G H1 H' ∧ ∃ ys, H' D = some (.lst ys) ∧ ys.length = j ∧ Al (fun y b => R y b H') ys (bs.take j)) ⟨hG.new hD, [], upd_same, rfl, Al.nil⟩ (fun j H' _ h => hGd _ h.1) ?_ (fun H' h => ?_)
  · rintro j x H2 H' hj ⟨g, ys, hl, hlen, hal⟩ y
    obtain ⟨rfl, px⟩ := hy j H2 x H' y
    refine ⟨wipe_one σ i x, ?_⟩
    have hj' : j < bs.length := by omega
    refine step j x bs[j] _ ys _ px (List.getElem?_eq_getElem hj') g hl fun v H3 g3 rv => ?_
    have hl3 := hG.lst g3 hok hl
    refine ⟨ys, hl3, small1000' (by omega), hG.put (hG.trans g g3) hD hl3, ys ++ [v], upd_same, by simp [hlen], ?_⟩
    rw [List.take_succ, List.getElem?_eq_getElem hj']
    exact Al.snoc (hal.imp fun y b r => stabD y b H3 _ _ (stab y b _ _ r g3) hl3) (stabD v _ H3 _ _ rv hl3)
  · obtain ⟨g, ys, hl, _, hal⟩ := h
    rw [← hn, List.take_length] at hal
    exact fin H' ys g hl hal
end
theorem yat {xs : List V} : ∀ i (H : Hp) x (H' : Hp), YAt xs i H x H' → H' = H ∧ xs[i]? = some x := fun _ _ _ _ h => h
theorem yfn {f : Nat → V} : ∀ i (H : Hp) x (H' : Hp), YFn f i H x H' → H' = H ∧ x = f i := fun _ _ _ _ h => h
end Ps

/-! {x for x in xs} of a list of ints: how many it has, against the list. -/
namespace Ps
open PySem PySem.Spec PyProof.Rows PySem.W L2

theorem nodup_snoc {l : List Int} {x : Int} : (l ++ [x]).Nodup ↔ l.Nodup ∧ x ∉ l := by
  rw [List.nodup_append]
  constructor
  · rintro ⟨h1, _, h3⟩
    exact ⟨h1, fun hm => h3 x hm x (by simp) rfl⟩
  · rintro ⟨h1, h2⟩
    refine ⟨h1, by simp, fun a ha b hb e => ?_⟩
    rw [List.mem_singleton.mp hb] at e
    exact h2 (e ▸ ha)
theorem vals_at : ∀ {xs : List V} {us : List Value} {i : Nat} {x : V} {u : Value}, Vals xs us → us[i]? = some u → xs[i]? = some x → RelV x u
  | _, _, 0, _, _, .cons r _, h1, h2 => by
    cases h1
    cases h2
    exact r
  | _, _, i + 1, _, _, .cons _ r, h1, h2 => vals_at (i := i) r (by simpa using h1) (by simpa using h2)
/-- the names of the block of a comprehension over one name -/
structure IdB (env : Env) (scope : Scope) (x : Str) : Prop where
  cell : ∀ y ∈ scope.names, y.2 ≠ .cell
  kind : scope.kind = .function
  uniq : ∀ y ∈ scope.names, y.2 = .local → scope.names.lookup y.1 = some .local
  free : ∀ y ∈ scope.names, y.2 ≠ .free
  loc : scope.names.lookup x = some .local
  dbg : (x == ("__debug__" : Str)) = false
def tSetI (w : World) (K : Frag) (te : TE) : TE := fun σ H Q => te σ H fun v H1 => ∃ (a : Addr) (ns : List Int), v = .ref a ∧ SqL K H1 a (ns.map V.int) ∧ ns.length ≤ 1000 ∧ ∀ D S n, H1 D = none → n ≤ ns.length → (n = ns.length ↔ ns.Nodup) → Q (.ref D) (upd H1 D (SetO w D S n))
section
variable {X : Cx}
theorem pe_setI {iter : Expr} {x : Str} {p1 p2 pos : Pos} {scope : Scope} {te : TE} (hc : X.calm = true) (B : IdB X.env scope x) (he : PE X iter te) (hs : ∀ v, foldedSetIterable iter X.env v = pure v := by intro _; rfl) :
    PE X (.SetComp (.Name x p1) [⟨.Name x p2, iter, [], 0⟩] scope pos) (tSetI X.w X.K te) := by
  refine ⟨fun pins s σ H Q I h => ?_⟩
  refine SetComp_goes (closure_ok fun y hy e => absurd e (B.free y hy)) B.cell B.kind B.uniq (thn (he.run pins s σ H _ I h) fun u s1 ⟨v, H1, I1, r1, q1⟩ => ?_) hs
  obtain ⟨a, ns, ev, hl, hn, q⟩ := q1
  subst ev
  cases r1
  obtain ⟨its, rv, pl, hz⟩ := I1.list hl
  have hI : IntsAre its ns := intsAre_of rv
  have hlen : its.length = ns.length := hI.length
  have isl := pl.isList
  obtain ⟨ol, hol, _⟩ := id isl
  have hlt : a < s1.heap.objs.size := Heap.lt_size hol
  refine wpAny_pyIter_list isl ?_
  have kp1 : ∀ b o, s1.heap.get? b = some o → (s1.heap.push { cls := .type "list_iterator", data := .fields #[.ref a, .int 0 0] }).get? b = some o := fun b o e => Heap.get?_push_of_some _ e
  have sz1 : (s1.heap.push { cls := .type "list_iterator", data := .fields #[.ref a, .int 0 0] }).objs.size = s1.heap.objs.size + 1 := size_push' _ _
  refine ⟨s1.heap.objs.size, _, _, _, _, _, rfl, Goes.list (I1.ok.hd hc) s1.heap.objs.size a (Nat.ne_of_lt hlt) its.toArray, ⟨⟨_, Heap.get?_push_size _ rfl, rfl, rfl⟩, isl.at fun o e => kp1 _ o e⟩, fun D C s₃ hB hD => ?_⟩
  obtain ⟨⟨h₃, tk₃, rfl⟩, old, nD, nC, hDC, hnm⟩ := hB
  have nC' : s1.heap.objs.size + 1 ≤ C := by rw [← sz1]; exact nC
  have nD' : s1.heap.objs.size + 1 ≤ D := by rw [← sz1]; exact nD
  have lt_of : ∀ {b : Addr} {o : Obj}, s1.heap.get? b = some o → b ≠ s1.heap.objs.size ∧ b ≠ C ∧ b ≠ D := fun {b o} e => by
    have hb : b < s1.heap.objs.size := Heap.lt_size e
    exact ⟨Nat.ne_of_lt hb, Nat.ne_of_lt (Nat.lt_of_lt_of_le hb (Nat.le_of_succ_le nC')), Nat.ne_of_lt (Nat.lt_of_lt_of_le hb (Nat.le_of_succ_le nD'))⟩
  have kinds : (compEnvC scope (cloFrom X.env.cells scope.names []) C X.env).kindOf x = some .local := lookup_relabel_local B.loc
  have hp : ((compEnvC scope (cloFrom X.env.cells scope.names []) C X.env).scope.kind == .class || ((compEnvC scope (cloFrom X.env.cells scope.names []) C X.env).scope.kind == .module && (compEnvC scope (cloFrom X.env.cells scope.names []) C X.env).locals != (compEnvC scope (cloFrom X.env.cells scope.names []) C X.env).globals)) = false := by
    show (scope.kind == .class || (scope.kind == .module && _)) = false
    rw [B.kind]
    rfl
  have hR0 : SetR X.w h₃ D (fun _ => false) 0 := by
    obtain ⟨o, es, ep, t, ho, r⟩ := setR_fresh (h := s1.heap) X.w
    rw [Heap.get?_push_size _ rfl] at ho
    exact ⟨o, es, ep, t, hD.trans ho, r⟩
  refine ⟨fun i s' => ∃ h' tk m S n, s' = { s1 with heap := h', toks := tk } ∧ h'.Ns C m ∧ SetR X.w h' D S n ∧ (∀ k, S k = decide (k ∈ ns.take i)) ∧ n ≤ i ∧ (n = i ↔ (ns.take i).Nodup) ∧ ∀ b o, s1.heap.get? b = some o → h'.get? b = some o, ⟨h₃, tk₃, _, _, _, rfl, hnm, hR0, fun k => by simp, Nat.le_refl _, by simp, fun b o e => old b o (kp1 b o e)⟩, ?_, ?_, ?_⟩
  · rintro i s' h' tk ⟨h₄, tk₄, m, S, n, rfl, n₄, R₄, hS, hn1, hn2, k₄⟩ hk' _
    refine ⟨h', tk, m, S, n, rfl, n₄.at' fun o e => hk' _ o ?_ e, R₄.at fun o e => hk' _ o ?_ e, hS, hn1, hn2, fun b o e => hk' b o ?_ (k₄ b o e)⟩
    · simp only [List.mem_singleton]
      exact Nat.ne_of_gt nC'
    · simp only [List.mem_singleton]
      exact Nat.ne_of_gt nD'
    · simp only [List.mem_singleton]
      exact (lt_of e).1
  · rintro i u s' hi hu st ⟨h₄, tk₄, m, S, n, rfl, n₄, R₄, hS, hn1, hn2, k₄⟩
    have hi' : i < ns.length := by rw [List.size_toArray, hlen] at hi; exact hi
    have hu' : its[i]? = some u := by simpa using hu
    obtain ⟨t, rfl⟩ : ∃ t, u = .int ns[i] t := vals_at (x := .int ns[i]) rv hu' (by rw [List.getElem?_map, List.getElem?_eq_getElem hi']; rfl)
    refine wpAny_assign_Name (wpAny_storeName_local kinds n₄ (fun h₆ n₆ s₆ => wpAny_tests_nil ?_) hp)
    show wpAny _ _ _ _ _ _
    rw [eval_Name _ _ _ B.dbg]
    refine wpAny_bind (wpAny_standAt (wpAny_loadName_local B.kind kinds n₆ (v := .int ns[i] t) (by simp) ?_))
    have R₆ : SetR X.w h₆ D S n := R₄.at fun o e => s₆.extBut _ _ hDC e
    have hmem : ns[i] ∈ ns.take i ↔ ¬ (S ns[i] = false) := by rw [hS]; simp
    have ek : ns.take (i + 1) = ns.take i ++ [ns[i]] := by rw [List.take_succ, List.getElem?_eq_getElem hi']; rfl
    refine setR_add R₆ (Nat.lt_of_le_of_lt (show n + 1 ≤ 1001 by omega) (by decide)) fun h₇ sb new => ?_
    have up : ∀ b o, b ≠ C → b ≠ D → h₄.get? b = some o → h₇.get? b = some o := fun b o h1 h2 e => (sb.2 b h2).trans (s₆.extBut _ _ h1 e)
    refine ⟨⟨h₇, _, _, _, _, rfl, n₆.at' fun o e => (sb.2 C (Ne.symm hDC)).trans e, new, fun k => ?_, ?_, ?_, fun b o e => up b o (lt_of e).2.1 (lt_of e).2.2 (k₄ b o e)⟩, ?_⟩
    · rw [ek, hS, Bool.eq_iff_iff]
      simp only [Bool.or_eq_true, decide_eq_true_eq, List.mem_append, List.mem_singleton]
    · split <;> omega
    · rw [ek, nodup_snoc]
      cases hb : S ns[i] with
      | true =>
        rw [if_pos rfl]
        have h1 : ns[i] ∈ ns.take i := by rw [hmem, hb]; simp
        constructor
        · intro z; omega
        · rintro ⟨_, z⟩; exact absurd h1 z
      | false =>
        rw [if_neg (by simp)]
        have h1 : ns[i] ∉ ns.take i := by rw [hmem, hb]; simp
        constructor
        · intro z; exact ⟨hn2.mp (by omega), h1⟩
        · rintro ⟨z, _⟩; rw [hn2.mpr z]
    · obtain ⟨z1, z2⟩ := st
      obtain ⟨o1, e1, e2⟩ := z1
      exact ⟨⟨o1, up _ _ (Nat.ne_of_lt nC') (Nat.ne_of_lt nD') e1, e2⟩, z2.at fun o e => up _ o (Nat.ne_of_lt (Nat.lt_of_lt_of_le hlt (Nat.le_of_succ_le nC'))) (Nat.ne_of_lt (Nat.lt_of_lt_of_le hlt (Nat.le_of_succ_le nD'))) e⟩
  · rintro s' ⟨h₄, tk₄, m, S, n, rfl, n₄, R₄, hS, hn1, hn2, k₄⟩
    rw [List.size_toArray, hlen] at hn1 hn2
    rw [List.take_length] at hn2
    refine ⟨m, n₄, fun h' hs' => ?_⟩
    have hDn : H1 D = none := I1.hok.fresh (Nat.le_of_succ_le nD')
    exact ⟨.ref D, upd H1 D (SetO X.w D S n), I1.laid (t' := tk₄) (fun b o e => hs'.extBut b o (lt_of e).2.1 (k₄ b o e)) (Nat.le_of_succ_le nD') (setO_new (R₄.at fun o e => hs'.extBut _ _ hDC e)), rfl, q D S n hDn hn1 hn2⟩
/-- len of a set of ints -/
theorem call_lenSet : CallR X (.builtin "len") (fun xs H Q => ∃ a S n, xs = [.ref a] ∧ H a = some (SetO X.w a S n) ∧ Q (.int (n : Nat)) H) := by
  intro pins s σ H xs us Q I r h
  obtain ⟨a, S, n, rfl, ha, q⟩ := h
  obtain ⟨u, rfl, rx⟩ := vals1 r
  cases rx
  obtain ⟨o, es, ep, t, ho, hex, hd, _, _, _, hsz, hf, hn, _⟩ := setO_get I ha
  refine call_len_set ho hex hd hf ?_ ⟨.int n, H, I.tok _, ⟨_, by rw [hn]⟩, q⟩
  have : scanBound ≤ 2 ^ 62 := by decide
  omega
end
end Ps

/-! Rows: words, nodes, the sort of both. -/
namespace Ps
open PySem PySem.Spec PyProof.Rows PySem.W L2 LamX

abbrev letters : Str := "abcdefghijklmnopqrstuvwxyz"
/-- built-in names -/
structure RwB (Z : Cz) : Prop where
  isi : Z.mg "isinstance" = none
  int : Z.mg "int" = none
  bool : Z.mg "bool" = none
  str : Z.mg "str" = none
  list : Z.mg "list" = none
  len : Z.mg "len" = none
  all : Z.mg "all" = none
  sorted : Z.mg "sorted" = none
  lets : ∃ t, Z.mg "LETTERS" = some (.str letters t)
  ml : ∃ t, Z.mg "MOST_LETTERS" = some (.int 8 t)
  mn : ∃ t, Z.mg "MOST_NODES" = some (.int 8 t)
def isW (z : Str) : Bool := decide (1 ≤ z.length ∧ z.length ≤ 8) && z.cps.toList.all fun c => decide (c ∈ letters.cps.toList)
/-- a word, or not -/
inductive WdB (K : Frag) (H : Hp) : V → Bool → Prop
  | str (z : Str) (h : z.length ≤ sizeLine) : WdB K H (.str z) (isW z)
  | odd {v : V} {t : Value} (ty : TyX K H v t) (k : kitOne K t (.type "str") = some false) : WdB K H v false
/-- no integer -/
def NnI (K : Frag) (H : Hp) (v : V) : Prop := ∃ t, TyX K H v t ∧ (t = .type "bool" ∨ kitOne K t (.type "int") = some false)
/-- a node, or not -/
inductive NdB (K : Frag) (m : Int) (H : Hp) : V → Bool → Prop
  | int (n : Int) : NdB K m H (.int n) (decide (0 ≤ n ∧ n < m))
  | odd {v : V} (h : NnI K H v) : NdB K m H v false
/-- nodes, or not -/
inductive NdsB (K : Frag) (m : Int) (H : Hp) : V → Bool → Prop
  | odd {v : V} {t : Value} (ty : TyX K H v t) (k : kitOne K t (.type "list") = some false) : NdsB K m H v false
  | bad {a : Addr} {xs : List V} {bs : List Bool} (h : H a = some (.lst xs)) (hl : xs.length ≤ 1000) (al : Al (NdB K m H) xs bs) (b : bs.all id = false) : NdsB K m H (.ref a) false
  | nds {a : Addr} {ns : List Int} (h : H a = some (.lst (ns.map V.int))) (hl : ns.length ≤ 1000) (hn : ∀ n ∈ ns, 0 ≤ n ∧ n < m) : NdsB K m H (.ref a) (decide ns.Nodup)
def spIsWord (K : Frag) : Sp := fun vs H Q _ => ∃ v b, vs = [v] ∧ WdB K H v b ∧ ∀ H', Same H H' → Q (.bl b) H'
def spAreNodes (K : Frag) : Sp := fun vs H Q _ => ∃ v m b, vs = [v, .int m] ∧ NdsB K m H v b ∧ ∀ H', Same H H' → Q (.bl b) H'
/-- the text of an item -/
def kTx : V → Str
  | .str z => z
  | .int i => toString i
  | _ => ""
def srt (ys : List V) : List V := ys.mergeSort (leTx kTx)
def spAsc (K : Frag) (T : List (Addr × Str)) : Sp := fun vs H Q _ => ∃ (a : Addr) (ys : List V), vs = [.ref a] ∧ Tabs T H ∧ Itr K H a ys ∧ (∀ y ∈ ys, KTx y (kTx y)) ∧ ∀ p H', Grow T H H' → H p = none → H' p = some (.lst (srt ys)) → Q (.ref p) H'
section
variable {P : Program} {w : World} {K : Frag} {mg : Str → Option Value} {base : Heap}
/-- as Fun.okN, the code object known -/
theorem Fun.okC {x qual : Str} {st : Stmt} {f : Addr} {fd : FuncData} {N ps : List Str} {k : Nat} {sp : Sp} {CX : CXT} (F : Fun K x qual st f fd) (S : FnScope N ps (defScope st)) (len : ∀ vs H Q E, sp vs H Q E → vs.length = ps.length)
    (hbody : ∀ (A : Around) (outer : List Env) (s : Shared) (H : Hp) (vs : List V) (Q : VK) (E : XK), Room k (A.deeper (envOfC qual (defScope st) s.heap.objs.size f fd.code)) → sp vs H Q E →
      ∃ t, PSs (cxOf CX P w K mg base N qual (defScope st) f fd.code A outer s H E) (defBody st) t ∧ t { nx := fun _ H' => Q .non H', rt := Q } (start N vs) H) : FnOk P w K mg base CX (k + 1) f fd ps sp := by
  obtain ⟨oc, od, kV, doc, pm, an, cdv, ct, osl, rfl, lk, hcd⟩ := F.ex
  exact fn_of lk hcd S len hbody
end
/-- lambda x: str(x), by a look at its parts -/
def strLB (params : Arguments) (body : Expr) (scope : Scope) : Bool := match params.args, body with
  | [a], .Call (.Name f _) [.Name x _] [] _ => decide (f = ("str" : Str)) && (decide (a.arg = x) && (decide (scope.names.lookup x = some .local) && (decide (scope.names.lookup ("str" : Str) = some .globalImplicit) && (!(x == ("__debug__" : Str)) &&
      (decide (scope.kind = .function) && (!scope.isCoroutine && (!scope.isGenerator && scope.names.all fun y => !decide (y.2 = .cell) && !decide (y.2 = .free))))))))
  | _, _ => false
theorem strL_by {params : Arguments} {body : Expr} {scope : Scope} {x : Str} {p1 p2 p3 : Pos} (eb : body = .Call (.Name "str" p1) [.Name x p2] [] p3) (h1 : scope.names.lookup x = some .local) (h2 : scope.names.lookup ("str" : Str) = some .globalImplicit) (h3 : (x == ("__debug__" : Str)) = false)
    (h4 : ∀ (q : Str) (cl : List (Str × Addr)) (pm cv ctv u : Value), bindArgs (kla_fn "<lambda>" q params body scope cl pm cv ctv) ⟨[u], []⟩ = pure [(x, u)]) (h5 : scope.kind = .function) (h6 : scope.isCoroutine = false) (h7 : scope.isGenerator = false)
    (h8 : (scope.names.all fun y => !decide (y.2 = .cell) && !decide (y.2 = .free)) = true) : StrL params body scope := by
  refine ⟨⟨x, p1, p2, p3, eb, h1, h2, h3, h4⟩, h5, h6, h7, fun y hy => ?_, fun y hy => ?_⟩
  · have := List.all_eq_true.mp h8 y hy
    simp only [Bool.and_eq_true, Bool.not_eq_true', decide_eq_false_iff_not] at this
    exact this.1
  · have := List.all_eq_true.mp h8 y hy
    simp only [Bool.and_eq_true, Bool.not_eq_true', decide_eq_false_iff_not] at this
    exact this.2
section
variable {Z : Cz} {f : Addr} {fd : FuncData}
theorem ok_isint (F : Fun Z.K "is_integer" "is_integer" s_is_integer f fd) (T : RwB Z) : Z.ok CX0 1 f fd ["value"] (spIsInt Z.K) := by
  refine F.ok sc_is_integer (fun vs H Q E h => ?_) (fun cdv A outer s H vs Q E hr h => ?_)
  · obtain ⟨v, t, rfl, _⟩ := h
    rfl
  · obtain ⟨v, t, rfl, ty, h⟩ := h
    refine ⟨_, (pss_one (ps_ret (pe_and (pe_callB call_isi (by rfl) T.isi (by decide +kernel) (pa_cons (pv 0) (pa_cons (pe_ty "int" (by rfl) T.int (by decide +kernel)) pa_nil))) (pe_one (pe_not (pe_callB call_isi (by rfl) T.isi (by decide +kernel) (pa_cons (pv 0) (pa_cons (pe_ty "bool" (by rfl) T.bool (by decide +kernel)) pa_nil)))))))), ?_⟩
    rcases h with ⟨rfl, q⟩ | ⟨rfl, q⟩ | ⟨e, q⟩
    · refine ⟨_, rfl, _, _, _, _, true, rfl, .ty "int", ty, kit_ty (by decide +kernel), _, rfl, iteT ?_⟩
      exact ⟨_, rfl, _, _, _, _, false, rfl, .ty "bool", ty, kit_ty (by decide +kernel), _, rfl, q⟩
    · refine ⟨_, rfl, _, _, _, _, true, rfl, .ty "int", ty, kit_ty (by decide +kernel), _, rfl, iteT ?_⟩
      exact ⟨_, rfl, _, _, _, _, true, rfl, .ty "bool", ty, kit_ty (by decide +kernel), _, rfl, q⟩
    · exact ⟨_, rfl, _, _, _, _, false, rfl, .ty "int", ty, e, _, rfl, iteF q⟩
theorem ok_is_word (F : Fun Z.K "is_word" "is_word" s_is_word f fd) (T : RwB Z) : Z.ok CX0 1 f fd ["value"] (spIsWord Z.K) := by
  refine F.ok sc_is_word (fun vs H Q E h => ?_) (fun cdv A outer s H vs Q E hr h => ?_)
  · obtain ⟨v, b, rfl, _⟩ := h
    rfl
  · obtain ⟨v, b, rfl, h, k⟩ := h
    obtain ⟨tl, gl⟩ := T.lets
    obtain ⟨tm, gm⟩ := T.ml
    refine ⟨_, (pss_cons (ps_if (PW.pt (pw_or (pt_not (pt_val (pe_callB call_isi (by rfl) T.isi (by decide +kernel) (pa_cons (pv 0) (pa_cons (pe_ty "str" (by rfl) T.str (by decide +kernel)) pa_nil))))) (pw_or1 (pt_not (pt_chain op_le op_le pe_int (pe_callB call_len (by rfl) T.len PySem.boot_len (pa_cons (pv 0) pa_nil)) (pe_glob (v := .int 8) rfl gm ⟨_, rfl⟩))))))
      (pss_one (ps_ret pe_bl))
      pss_nil)
      (pss_one (ps_ret (pe_callB (cr_all rfl) (by rfl) T.all (by decide +kernel) (pa_cons (pe_lc (own := [("sign", 1)]) (g := gName 1) (tt := tYes) (by rfl) sc_is_word.nd (pi_str (pv 0)) (blkOk_by (own := [("sign", 1)]) (N := ["value", "sign"]) (sc := defScope s_is_word) (by decide +kernel)) (fun _ _ _ _ _ => (pg_name (i := 1) sc_is_word.nd rfl (Or.inl rfl))) (fun _ _ _ _ _ => pts_nil) (fun _ _ _ _ _ => (pe_cmpR op_in_sign (pv 1) (pe_glob (v := .str letters) rfl gl ⟨_, rfl⟩) (by rfl)))) pa_nil))))), ?_⟩
    have k0 := k H (Same.refl _)
    cases h with
    | odd ty k1 => exact ⟨_, rfl, _, _, _, _, false, rfl, .ty "str", ty, k1, _, rfl, iteT k0⟩
    | str z hz =>
      refine ⟨_, rfl, _, _, _, _, true, rfl, .ty "str", .base (.str _), kit_ty (by decide +kernel), _, rfl, iteF ?_⟩
      refine ⟨_, rfl, .str z, z.length, rfl, ⟨hz, rfl⟩, _, _, rfl, rfl, _, rfl, ?_⟩
      have hnz : ∀ i : Nat, i < z.cps.size → ∃ c, z.cps[i]? = some c := fun i hi => ⟨z.cps[i], Array.getElem?_eq_getElem hi⟩
      by_cases h1 : 1 ≤ z.length
      · rw [decide_eq_true (show (1 : Int) ≤ ((z.length : Nat) : Int) by omega)]
        refine iteT ⟨_, _, rfl, rfl, _, rfl, ?_⟩
        by_cases h2 : z.length ≤ 8
        · rw [decide_eq_true (show ((z.length : Nat) : Int) ≤ 8 by omega)]
          refine iteF ⟨_, rfl, z, rfl, fun D hD => ?_⟩
          refine lcF hr_same walk_str (P := fun i v => ∃ c, z.cps[i]? = some c ∧ v = .str ⟨#[c]⟩) (fun _ _ _ _ h => h) (ys := (z.cps.toList.map fun c => decide (c ∈ letters.cps.toList)).map V.bl) ?_ ?_ hD trivial (fun _ _ => trivial) ?_ (fun H2 e2 hl => ?_)
          · simp
          · exact Nat.le_trans h2 (by decide)
          · rintro j x y H2 Qe ⟨c, hc, rfl⟩ hy e2 kk
            refine ⟨_, rfl, c, _, rfl, rfl, ?_⟩
            rw [List.getElem?_map, List.getElem?_map, Array.getElem?_toList, hc] at hy
            cases hy
            exact kk H2 (Same.refl _)
          · refine ⟨D, _, rfl, SqL.of hl, ?_⟩
            have e3 : isW z = (z.cps.toList.map fun c => decide (c ∈ letters.cps.toList)).all id := by
              unfold isW
              rw [decide_eq_true ⟨h1, h2⟩, Bool.true_and, List.all_map]
              rfl
            rw [← e3]
            exact k _ e2
        · rw [decide_eq_false (show ¬ ((z.length : Nat) : Int) ≤ 8 by omega)]
          have e3 : isW z = false := by
            unfold isW
            rw [decide_eq_false (show ¬ (1 ≤ z.length ∧ z.length ≤ 8) from fun h => h2 h.2), Bool.false_and]
          rw [e3] at k0
          exact iteT k0
      · rw [decide_eq_false (show ¬ (1 : Int) ≤ ((z.length : Nat) : Int) by omega)]
        have e3 : isW z = false := by
          unfold isW
          rw [decide_eq_false (show ¬ (1 ≤ z.length ∧ z.length ≤ 8) from fun h => h1 h.1), Bool.false_and]
        rw [e3] at k0
        exact iteF ⟨_, rfl, iteT k0⟩
theorem NnI.mono {K : Frag} {H H' : Hp} {v : V} (e : Same H H') (h : NnI K H v) : NnI K H' v := let ⟨t, ty, k⟩ := h; ⟨t, tyX_same e ty, k⟩
theorem ok_are_nodes (F : Fun Z.K "are_nodes" "are_nodes" s_are_nodes f fd) (T : RwB Z) (c_is_integer : Cal Z CX0 1 "is_integer" ["value"] [] (spIsInt Z.K)) : Z.ok CX0 2 f fd ["value", "many"] (spAreNodes Z.K) := by
  refine F.ok sc_are_nodes (fun vs H Q E h => ?_) (fun cdv A outer s H vs Q E hr h => ?_)
  · obtain ⟨v, m, b, rfl, _⟩ := h
    rfl
  · obtain ⟨v, m, b, rfl, h, k⟩ := h
    refine ⟨_, (pss_cons (ps_if (PW.pt (pw_or (pt_not (pt_val (pe_callB call_isi (by rfl) T.isi (by decide +kernel) (pa_cons (pv 0) (pa_cons (pe_ty "list" (by rfl) T.list (by decide +kernel)) pa_nil))))) (pw_or1 (pt_not (pt_val (pe_callB (cr_all rfl) (by rfl) T.all (by decide +kernel) (pa_cons (pe_lc (own := [("node", 2)]) (g := gName 2) (tt := tYes) (by rfl) sc_are_nodes.nd (pi_list (pv 0)) (blkOk_by (own := [("node", 2)]) (N := ["value", "many", "node"]) (sc := defScope s_are_nodes) (by decide +kernel)) (fun _ _ _ _ _ => (pg_name (i := 2) sc_are_nodes.nd rfl (Or.inl rfl))) (fun _ _ _ _ _ => pts_nil) (fun _ _ _ _ _ => (pe_and (pe_cal c_is_integer (hr.mono (by decide)) (by rfl) pass0 (pa_cons (pv 2) pa_nil)) (pe_one (pe_chain op_le op_lt pe_int (pv 2) (pv 1)))))) pa_nil)))))))
      (pss_one (ps_ret pe_bl))
      pss_nil)
      (pss_one (ps_ret (pe_cmpR op_eq (pe_callB call_lenSet (by rfl) T.len PySem.boot_len (pa_cons (pe_setI rfl ⟨by decide +kernel, rfl, by decide +kernel, by decide +kernel, by decide +kernel, by decide⟩ (pv 0)) pa_nil)) (pe_callB call_len_seq (by rfl) T.len PySem.boot_len (pa_cons (pv 0) pa_nil)) (nomark _))))), ?_⟩
    have k0 := k H (Same.refl _)
    cases h with
    | odd ty k1 => exact ⟨_, rfl, _, _, _, _, false, rfl, .ty "list", ty, k1, _, rfl, iteT k0⟩
    | @bad a xs bs h hl al hb =>
      refine ⟨_, rfl, _, _, _, _, true, rfl, .ty "list", .base (.lst h), kit_ty (by decide +kernel), _, rfl, iteF ?_⟩
      refine ⟨_, rfl, a, rfl, ⟨_, SqL.of h⟩, fun D hD => ?_⟩
      refine lcF hr_same (walk_list (K := Z.K) (a := a) (xs := xs)) yat (ys := bs.map V.bl) (by rw [List.length_map]; exact al.1.symm) (Nat.le_trans hl (by decide)) hD trivial (fun H2 e2 => SqL.of (e2 _ _ h)) ?_ (fun H2 e2 hl2 => ?_)
      · rintro j x y H2 Qe hx hy e2 kk
        rw [List.getElem?_map] at hy
        cases hbj : bs[j]? with
        | none => rw [hbj] at hy; cases hy
        | some bj =>
          rw [hbj] at hy
          cases hy
          have hn := al.2 j x bj hx hbj
          cases hn with
          | int n =>
            refine ⟨_, rfl, _, _, rfl, .base (.int n), .inl ⟨rfl, ⟨_, rfl, iteT ⟨_, rfl, _, _, rfl, rfl, _, rfl, ?_⟩⟩⟩⟩
            by_cases h1 : 0 ≤ n
            · rw [decide_eq_true h1]
              refine iteT ⟨_, rfl, _, _, rfl, rfl, ?_⟩
              have e3 : decide (n < m) = decide (0 ≤ n ∧ n < m) := by simp [h1]
              show Qe (V.bl (decide (n < m))) H2
              rw [e3]
              exact kk H2 (Same.refl _)
            · rw [decide_eq_false h1]
              have e3 : decide (0 ≤ n ∧ n < m) = false := by simp [h1]
              rw [e3] at kk
              exact iteF (kk H2 (Same.refl _))
          | odd ho =>
            obtain ⟨t, ty, ht⟩ := ho.mono e2
            rcases ht with rfl | ht
            · exact ⟨_, rfl, _, _, rfl, ty, .inr (.inl ⟨rfl, ⟨_, rfl, iteF (kk H2 (Same.refl _))⟩⟩)⟩
            · exact ⟨_, rfl, _, _, rfl, ty, .inr (.inr ⟨ht, ⟨_, rfl, iteF (kk H2 (Same.refl _))⟩⟩)⟩
      · refine ⟨D, bs, rfl, SqL.of hl2, ?_⟩
        rw [hb]
        exact ⟨_, rfl, iteT (k _ e2)⟩
    | @nds a ns h hl hn =>
      refine ⟨_, rfl, _, _, _, _, true, rfl, .ty "list", .base (.lst h), kit_ty (by decide +kernel), _, rfl, iteF ?_⟩
      refine ⟨_, rfl, a, rfl, ⟨_, SqL.of h⟩, fun D hD => ?_⟩
      refine lcF hr_same (walk_list (K := Z.K) (a := a) (xs := ns.map V.int)) yat (ys := (ns.map fun _ => true).map V.bl) (by simp) (by rw [List.length_map]; exact Nat.le_trans hl (by decide)) hD trivial (fun H2 e2 => SqL.of (e2 _ _ h)) ?_ (fun H2 e2 hl2 => ?_)
      · rintro j x y H2 Qe hx hy e2 kk
        rw [List.getElem?_map] at hx
        rw [List.getElem?_map, List.getElem?_map] at hy
        cases hj : ns[j]? with
        | none => rw [hj] at hx; cases hx
        | some n =>
          rw [hj] at hx hy
          cases hx
          cases hy
          have hnm := hn n (List.mem_of_getElem? hj)
          refine ⟨_, rfl, _, _, rfl, .base (.int n), .inl ⟨rfl, ⟨_, rfl, iteT ⟨_, rfl, _, _, rfl, rfl, _, rfl, ?_⟩⟩⟩⟩
          rw [decide_eq_true hnm.1]
          refine iteT ⟨_, rfl, _, _, rfl, rfl, ?_⟩
          show Qe (V.bl (decide (n < m))) H2
          rw [decide_eq_true hnm.2]
          exact kk H2 (Same.refl _)
      · refine ⟨D, _, rfl, SqL.of hl2, ?_⟩
        have e3 : ((ns.map fun _ => true).all id) = true := by simp
        rw [e3]
        refine ⟨_, rfl, iteF ?_⟩
        refine ⟨_, rfl, a, ns, rfl, SqL.of (e2 _ _ h), hl, fun S2 S n hS h1 h2 => ?_⟩
        have e4 := Same.upd (o := SetO Z.w S2 S n) hS
        refine ⟨S2, S, n, rfl, upd_same, _, rfl, a, _, rfl, .inl (SqL.of ((e2.trans e4) _ _ h)), ?_⟩
        rw [List.length_map]
        have e5 : decide (V.int ((n : Nat) : Int) = V.int ((ns.length : Nat) : Int)) = decide ns.Nodup := by
          by_cases hnd : ns.Nodup
          · rw [decide_eq_true hnd, h2.mpr hnd]
            simp
          · rw [decide_eq_false hnd]
            exact decide_eq_false fun z => hnd (h2.mp (by have := V.int.inj z; omega))
        have k2 := k _ (e2.trans e4)
        rw [← e5] at k2
        exact ⟨rfl, k2⟩
/-- sorted by texts -/
theorem ok_asc {T0 : List (Addr × Str)} (F : Fun Z.K "ascending" "ascending" s_ascending f fd) (T : RwB Z) (M : Mkr Z T0 fd.code "ascending.<locals>.<lambda>") : Z.ok CX0 2 f fd ["things"] (spAsc Z.K T0) := by
  refine Fun.okC F sc_ascending (fun vs H Q E h => ?_) (fun A outer s H vs Q E hr h => ?_)
  · obtain ⟨a, ys, rfl, _⟩ := h
    rfl
  · obtain ⟨a, ys, rfl, hT, hi, hk, k⟩ := h
    refine ⟨_, pss_one (ps_ret (pe_callBK (call_sortedStr (k := kTx) rfl T.str (hr.mono (by decide))) (by rfl) T.sorted (by decide +kernel) (pa_cons (pv 0) pa_nil) (pk_cons (pe_lamK (Z := Z) (T := T0) M (strL_by (x := "thing") rfl rfl rfl (by decide) (fun _ _ _ _ _ _ => rfl) rfl rfl rfl (by decide +kernel))) pk_nil))), ?_⟩
    refine ⟨_, rfl, hT, fun l H1 g1 t1 kl => ⟨a, l, ys, rfl, rfl, kl, ?_, hk, fun p hp => k p _ (g1.trans (.new hp)) ?_ upd_same⟩⟩
    · rcases hi with hi | hi | ⟨kvs, hd, e⟩
      · exact .inl (g1.seq hi)
      · exact .inr (.inl (g1.seqT hi))
      · exact .inr (.inr ⟨kvs, g1.rdK hd, e⟩)
    · exact g1.f p hp
end
end Ps

/-! Rows: their making. -/
namespace Ps
open PySem PySem.Spec PyProof.Rows PySem.W L2 LamX

/-- the data of rows -/
structure RwD where
  ks : List Str
  nx : List (List Int)
  fs : List Int
/-- the i-th is a list of these ints -/
def IsInts (H : Hp) (r : V) (ns : List Int) : Prop := ∃ l, r = V.ref l ∧ H l = some (.lst (ns.map V.int))
/-- the lists of rows -/
structure RwL (H : Hp) (a b c : Addr) (R : RwD) : Prop where
  ks : H a = some (.lst (R.ks.map V.str))
  nx : ∃ rs, H b = some (.lst rs) ∧ Al (IsInts H) rs R.nx
  fs : H c = some (.lst (R.fs.map V.int))
structure KsG (ks : List Str) : Prop where
  l1 : 1 ≤ ks.length
  l8 : ks.length ≤ 8
  w : ∀ z ∈ ks, isW z = true
/-- rows that are right -/
structure RwG (R : RwD) : Prop where
  k : KsG R.ks
  nl : R.nx.length = R.ks.length
  nx : ∀ ns ∈ R.nx, (∀ n ∈ ns, 0 ≤ n ∧ n < R.ks.length) ∧ ns.Nodup
  fx : ∀ n ∈ R.fs, 0 ≤ n ∧ n < R.ks.length
  fd : R.fs.Nodup
  f0 : R.fs ≠ []
  nz : ∀ ns ∈ R.nx, ns.length ≤ 1000
  fz : R.fs.length ≤ 1000
def rwF (a b c : Addr) : List (Str × V) := [("own_kinds", .ref a), ("own_nexts", .ref b), ("own_firsts", .ref c)]
def RwAt (CR : Addr) (H : Hp) (v : V) (R : RwD) : Prop := ∃ x dx a b c, v = .ref x ∧ H x = some (.ins CR dx (rwF a b c)) ∧ RwL H a b c R
def srtI (ns : List Int) : List Int := ns.mergeSort fun a b => decide (a ≤ b)
def RwD.srt (R : RwD) : RwD := ⟨R.ks, R.nx.map srtI, srtI R.fs⟩
/-- no kinds, no nexts, no firsts -/
inductive KBad (K : Frag) (H : Hp) : V → Prop
  | odd {v : V} {t : Value} (ty : TyX K H v t) (k : kitOne K t (.type "list") = some false) : KBad K H v
  | len {a : Addr} {xs : List V} (h : H a = some (.lst xs)) (hl : xs.length = 0 ∨ 8 < xs.length) : KBad K H (.ref a)
  | word {a : Addr} {xs : List V} {bs : List Bool} (h : H a = some (.lst xs)) (h1 : 1 ≤ xs.length) (h8 : xs.length ≤ 8) (al : Al (WdB K H) xs bs) (hb : bs.all id = false) : KBad K H (.ref a)
inductive NBad (K : Frag) (H : Hp) (m : Nat) : V → Prop
  | odd {v : V} {t : Value} (ty : TyX K H v t) (k : kitOne K t (.type "list") = some false) : NBad K H m v
  | len {a : Addr} {xs : List V} (h : H a = some (.lst xs)) (hl : xs.length ≠ m) : NBad K H m (.ref a)
  | row {a : Addr} {xs : List V} {bs : List Bool} (h : H a = some (.lst xs)) (hl : xs.length = m) (al : Al (NdsB K m H) xs bs) (hb : bs.all id = false) : NBad K H m (.ref a)
inductive FBad (K : Frag) (H : Hp) (m : Nat) : V → Prop
  | odd {v : V} (h : NdsB K m H v false) : FBad K H m v
  | nil {c : Addr} (h : H c = some (.lst [])) : FBad K H m (.ref c)
/-- what the arguments of Rows bring -/
def RwO (K : Frag) (H : Hp) (v1 v2 v3 : V) (o : Str ⊕ RwD) : Prop := (KBad K H v1 ∧ o = .inl "kinds") ∨ ∃ a ks, v1 = .ref a ∧ H a = some (.lst (ks.map V.str)) ∧ KsG ks ∧ ((NBad K H ks.length v2 ∧ o = .inl "nexts") ∨
  ∃ b xs bs, v2 = .ref b ∧ H b = some (.lst xs) ∧ xs.length = ks.length ∧ Al (NdsB K ks.length H) xs bs ∧ bs.all id = true ∧ ((FBad K H ks.length v3 ∧ o = .inl "firsts") ∨ ∃ c R, v3 = .ref c ∧ RwL H a b c R ∧ RwG R ∧ R.ks = ks ∧ o = .inr R))
/-- the lists of the made rows are new -/
structure RwN (H H' : Hp) (a b c : Addr) : Prop where
  ka : H a = none
  kb : H b = none
  kc : H c = none
  kr : ∀ rs l, H' b = some (.lst rs) → V.ref l ∈ rs → H l = none
def spRows (K : Frag) (T : List (Addr × Str)) (CR CB : Addr) : Sp := fun vs H Q E => ∃ x dx v1 v2 v3 o, vs = [.ref x, v1, v2, v3] ∧ H x = some (.ins CR dx []) ∧ Tabs T H ∧ RwO K H v1 v2 v3 o ∧
  match o with
  | .inl z => Rz CB "field" (.str z) H E
  | .inr R => ∀ H' a b c, Gr T (some x) H H' → H' x = some (.ins CR dx (rwF a b c)) → RwL H' a b c R.srt → RwN H H' a b c → Q .non H'
/-! ### the plain side -/
theorem le_digits : ∀ a b : Fin 10, leTx kTx (.int (a.val : Nat)) (.int (b.val : Nat)) = decide ((a.val : Int) ≤ (b.val : Int)) := by decide +kernel
theorem le_digit {i j : Int} (h0 : 0 ≤ i) (h1 : i < 10) (h2 : 0 ≤ j) (h3 : j < 10) : leTx kTx (.int i) (.int j) = decide (i ≤ j) := by
  have := le_digits ⟨i.toNat, by omega⟩ ⟨j.toNat, by omega⟩
  have e1 : ((i.toNat : Nat) : Int) = i := by omega
  have e2 : ((j.toNat : Nat) : Int) = j := by omega
  rw [show ((⟨i.toNat, by omega⟩ : Fin 10).val : Nat) = i.toNat from rfl, show ((⟨j.toNat, by omega⟩ : Fin 10).val : Nat) = j.toNat from rfl, e1, e2] at this
  exact this
theorem srt_ints {ns : List Int} (h : ∀ n ∈ ns, 0 ≤ n ∧ n < 10) : srt (ns.map V.int) = (srtI ns).map V.int := by
  unfold srt srtI
  rw [List.map_mergeSort (f := V.int) (s := leTx kTx) fun a ha b hb => (le_digit (h a ha).1 (h a ha).2 (h b hb).1 (h b hb).2).symm]
theorem srtI_perm (ns : List Int) : (srtI ns).Perm ns := List.mergeSort_perm _ _
theorem srtI_sorted (ns : List Int) : (srtI ns).Pairwise (· ≤ ·) := by
  have h := List.pairwise_mergeSort (le := fun a b : Int => decide (a ≤ b)) (fun a b c h1 h2 => by simp at h1 h2 ⊢; omega) (fun a b => by simp; omega) ns
  exact h.imp fun z => by simpa using z
theorem srtI_of {ns : List Int} (h : ns.Pairwise (· < ·)) : srtI ns = ns :=
  (srtI_perm ns).eq_of_pairwise (fun a b _ _ h1 h2 => by omega) (srtI_sorted ns) (h.imp fun z => by omega)
theorem ktx_int {i : Int} (h0 : 0 ≤ i) (h1 : i < 10) : KTx (.int i) (kTx (.int i)) := .inr ⟨i, rfl, by
  have : i.natAbs < 10 := by omega
  exact Nat.lt_of_le_of_lt (Nat.log2_le_self _) (by omega), rfl⟩
theorem fl_fieldR : FlOk "field" := ⟨fun _ _ _ _ _ _ _ _ _ _ _ _ _ => rfl, fun _ _ => rfl, fun _ _ _ _ _ _ => rfl, fun _ _ _ _ _ _ => rfl, fun _ _ _ _ => rfl, fun _ _ _ _ => rfl, by decide⟩
/-- nodes that are right -/
theorem NdsB.mono {K : Frag} {m : Int} {H H' : Hp} {v : V} {b : Bool} (e : Same H H') (h : NdsB K m H v b) : NdsB K m H' v b := by
  cases h with
  | odd ty k => exact .odd (tyX_same e ty) k
  | bad h hl al hb => exact .bad (e _ _ h) hl (al.imp fun v b q => by
      cases q with
      | int n => exact .int n
      | odd ho => exact .odd (ho.mono e)) hb
  | nds h hl hn => exact .nds (e _ _ h) hl hn
theorem WdB.mono {K : Frag} {H H' : Hp} {v : V} {b : Bool} (e : Same H H') (h : WdB K H v b) : WdB K H' v b := by
  cases h with
  | str z h => exact .str z h
  | odd ty k => exact .odd (tyX_same e ty) k
theorem isW_len {z : Str} (h : isW z = true) : z.length ≤ sizeLine := by
  unfold isW at h
  have h1 := ((Bool.and_eq_true _ _).mp h).1
  have h2 := (of_decide_eq_true h1).2
  exact Nat.le_trans h2 (by decide)
theorem al_map {α : Type} {R : V → α → Prop} {β : Type} (f : β → V) (g : β → α) {l : List β} (h : ∀ x ∈ l, R (f x) (g x)) : Al R (l.map f) (l.map g) := by
  refine ⟨by simp, fun i v q h1 h2 => ?_⟩
  rw [List.getElem?_map] at h1 h2
  cases hx : l[i]? with
  | none => rw [hx] at h1; cases h1
  | some x =>
    rw [hx] at h1 h2
    cases h1
    cases h2
    exact h x (List.mem_of_getElem? hx)
theorem words_al {K : Frag} {H : Hp} {ks : List Str} (g : KsG ks) : Al (WdB K H) (ks.map V.str) (ks.map fun _ => true) := al_map V.str (fun _ => true) fun z hz => by
  have h := g.w z hz
  have q : WdB K H (.str z) (isW z) := .str z (isW_len h)
  rw [h] at q
  exact q
theorem RwL.nds {K : Frag} {H : Hp} {a b c : Addr} {R : RwD} (L : RwL H a b c R) (g : RwG R) : ∃ rs, H b = some (.lst rs) ∧ rs.length = R.ks.length ∧ Al (IsInts H) rs R.nx ∧ Al (NdsB K R.ks.length H) rs (R.nx.map fun _ => true) := by
  obtain ⟨rs, h, al⟩ := L.nx
  refine ⟨rs, h, al.1.trans g.nl, al, by rw [List.length_map]; exact al.1, fun i v q h1 h2 => ?_⟩
  rw [List.getElem?_map] at h2
  cases hn : R.nx[i]? with
  | none => rw [hn] at h2; cases h2
  | some ns =>
    rw [hn] at h2
    cases h2
    obtain ⟨l, rfl, hl⟩ := al.2 i v ns h1 hn
    obtain ⟨g1, g2⟩ := g.nx ns (List.mem_of_getElem? hn)
    have q : NdsB K R.ks.length H (.ref l) (decide ns.Nodup) := .nds hl (g.nz ns (List.mem_of_getElem? hn)) g1
    rw [decide_eq_true g2] at q
    exact q
/-- the class of rows -/
structure RwC (Z : Cz) (CR : Addr) : Prop where
  cl : Cls Z.K CR
  nK : NoAttr Z.K CR "own_kinds"
  nN : NoAttr Z.K CR "own_nexts"
  nF : NoAttr Z.K CR "own_firsts"
  mg : Z.mg "Rows" = some (.ref CR)
  ha : findIn Z.K (.ref CR) "__class__" = some (some (.builtin "object.__class__"))
  hn : specialIn Z.K (.builtin "object.__class__") "__get__" = some (some (.builtin "getset_descriptor.__get__"))
  htk : takesIn Z.K (.builtin "object.__class__") = some true
  hm : mroIn Z.K CR (.type "object") = some true
  kCC : kitOne Z.K (.ref CR) (.ref CR) = some true
theorem Gr.self {T : List (Addr × Str)} {H : Hp} {x C dx : Addr} {fs : List (Str × V)} {o : HO} (h : H x = some (.ins C dx fs)) : Gr T (some x) H (upd H x o) :=
  ⟨fun b u hb e _ => by
    rw [upd_ne fun z => hb (by rw [z])]
    exact e, fun t => tabs_put t h (fun _ z => by cases z) (fun _ _ z => by cases z), fun b h => upd_free (fun _ h => h) h⟩
section
variable {Z : Cz} {f CR CB P fB : Addr} {fd : FuncData}
theorem ok_Rows {T0 : List (Addr × Str)} (F : Fun Z.K "__init__" "Rows.__init__" s_Rows_dd_init f fd) (T : RwB Z) (C : RwC Z CR) (TB : ExT Z.K Z.mg "BadRows" "field" "BadRows.__init__" CB P fB)
    (c_is_word : Cal Z CX0 1 "is_word" ["value"] [] (spIsWord Z.K)) (c_are_nodes : Cal Z CX0 2 "are_nodes" ["value", "many"] [] (spAreNodes Z.K)) (c_ascending : Cal Z CX0 2 "ascending" ["things"] [] (spAsc Z.K T0)) :
    Z.ok (CXN Z) 3 f fd ["self", "kinds", "nexts", "firsts"] (spRows Z.K T0 CR CB) := by
  refine Fun.okN F sc_Rows_dd_init (fun vs H Q E h => ?_) (fun cdv A outer s H vs Q E hr h => ?_)
  · obtain ⟨x, dx, v1, v2, v3, o, rfl, _⟩ := h
    rfl
  · obtain ⟨x, dx, v1, v2, v3, o, rfl, hx, hT, ho, k⟩ := h
    obtain ⟨tm, gm⟩ := T.mn
    refine ⟨_, (pss_cons (ps_if (PW.pt (pw_or (pt_not (pt_val (pe_callB call_isi (by rfl) T.isi (by decide +kernel) (pa_cons (pv 1) (pa_cons (pe_ty "list" (by rfl) T.list (by decide +kernel)) pa_nil))))) (pw_or1 (pt_not (pt_chain op_le op_le pe_int (pe_callB call_len_seq (by rfl) T.len PySem.boot_len (pa_cons (pv 1) pa_nil)) (pe_glob (v := .int 8) rfl gm ⟨_, rfl⟩))))))
      (pss_one (ps_raiseX TB fl_fieldR hr (L2N.takes_of rfl rfl rfl rfl) (pa_cons pe_str pa_nil) rfl))
      pss_nil)
      (pss_cons (ps_if (pt_not (pt_val (pe_callB (cr_all rfl) (by rfl) T.all (by decide +kernel) (pa_cons (pe_lc (own := [("word", 4)]) (g := gName 4) (tt := tYes) (by rfl) sc_Rows_dd_init.nd (pi_list (pv 1)) (blkOk_by (own := [("word", 4)]) (N := ["self", "kinds", "nexts", "firsts", "word", "many", "row"]) (sc := defScope s_Rows_dd_init) (by decide +kernel)) (fun _ _ _ _ _ => (pg_name (i := 4) sc_Rows_dd_init.nd rfl (Or.inl rfl))) (fun _ _ _ _ _ => pts_nil) (fun _ _ _ _ _ => (pe_cal c_is_word (hr.mono (by decide)) (by rfl) pass0 (pa_cons (pv 4) pa_nil)))) pa_nil))))
      (pss_one (ps_raiseX TB fl_fieldR hr (L2N.takes_of rfl rfl rfl rfl) (pa_cons pe_str pa_nil) rfl))
      pss_nil)
      (pss_cons (ps_set (i := 5) sc_Rows_dd_init.nd rfl (Or.inr rfl) (pe_callB call_len_seq (by rfl) T.len PySem.boot_len (pa_cons (pv 1) pa_nil)))
      (pss_cons (ps_if (PW.pt (pw_or (pt_not (pt_val (pe_callB call_isi (by rfl) T.isi (by decide +kernel) (pa_cons (pv 2) (pa_cons (pe_ty "list" (by rfl) T.list (by decide +kernel)) pa_nil))))) (pw_or (pt_cmpR op_ne (pe_callB call_len_seq (by rfl) T.len PySem.boot_len (pa_cons (pv 2) pa_nil)) (pv 5) (nomark _)) (pw_or1 (pt_not (pt_val (pe_callB (cr_all rfl) (by rfl) T.all (by decide +kernel) (pa_cons (pe_lc (own := [("row", 6)]) (g := gName 6) (tt := tYes) (by rfl) sc_Rows_dd_init.nd (pi_list (pv 2)) (blkOk_by (own := [("row", 6)]) (N := ["self", "kinds", "nexts", "firsts", "word", "many", "row"]) (sc := defScope s_Rows_dd_init) (by decide +kernel)) (fun _ _ _ _ _ => (pg_name (i := 6) sc_Rows_dd_init.nd rfl (Or.inl rfl))) (fun _ _ _ _ _ => pts_nil) (fun _ _ _ _ _ => (pe_cal c_are_nodes (hr.mono (by decide)) (by rfl) pass0 (pa_cons (pv 6) (pa_cons (pv 5) pa_nil))))) pa_nil))))))))
      (pss_one (ps_raiseX TB fl_fieldR hr (L2N.takes_of rfl rfl rfl rfl) (pa_cons pe_str pa_nil) rfl))
      pss_nil)
      (pss_cons (ps_if (PW.pt (pw_or (pt_not (pt_val (pe_cal c_are_nodes (hr.mono (by decide)) (by rfl) pass0 (pa_cons (pv 3) (pa_cons (pv 5) pa_nil))))) (pw_or1 (pt_cmpR (op_eqD hr.units) (pv 3) (pe_lst pa_nil) (nomark _)))))
      (pss_one (ps_raiseX TB fl_fieldR hr (L2N.takes_of rfl rfl rfl rfl) (pa_cons pe_str pa_nil) rfl))
      pss_nil)
      (pss_cons (ps_fld (pv 0) (pe_callTy call_list_of (by rfl) T.list (by decide +kernel) (pa_cons (pv 1) pa_nil)) rfl)
      (pss_cons (ps_fld (pv 0) (pe_lc (own := [("row", 6)]) (g := gName 6) (tt := tYes) (by rfl) sc_Rows_dd_init.nd (pi_list (pv 2)) (blkOk_by (own := [("row", 6)]) (N := ["self", "kinds", "nexts", "firsts", "word", "many", "row"]) (sc := defScope s_Rows_dd_init) (by decide +kernel)) (fun _ _ _ _ _ => (pg_name (i := 6) sc_Rows_dd_init.nd rfl (Or.inl rfl))) (fun _ _ _ _ _ => pts_nil) (fun _ _ _ _ _ => (pe_cal c_ascending (hr.mono (by decide)) (by rfl) pass0 (pa_cons (pv 6) pa_nil)))) rfl)
      (pss_one (ps_fld (pv 0) (pe_cal c_ascending (hr.mono (by decide)) (by rfl) pass0 (pa_cons (pv 3) pa_nil)) rfl))))))))), ?_⟩
    -- the kinds
    have raised : ∀ {z : Str} {H1 : Hp}, o = .inl z → Same H H1 → ∀ d, H1 d = none → E (.ref CB) (some d) (L2.upd H1 d (.xd [("field", .str z)])) := fun {z H1} e e1 => by
      rw [e] at k
      exact (Rz.later k e1).now
    rcases ho with ⟨hb, ho⟩ | ⟨a, ks, rfl, ha, gk, ho⟩
    · have r0 := raised ho (Same.refl H)
      cases hb with
      | odd ty hk => exact ⟨_, rfl, _, _, _, _, false, rfl, .ty "list", ty, hk, _, rfl, iteT ⟨_, rfl, r0⟩⟩
      | @len a xs h hl =>
        refine ⟨_, rfl, _, _, _, _, true, rfl, .ty "list", .base (.lst h), kit_ty (by decide +kernel), _, rfl, iteF ?_⟩
        refine ⟨_, rfl, a, xs, rfl, .inl (SqL.of h), _, _, rfl, rfl, _, rfl, ?_⟩
        rcases hl with hl | hl
        · rw [decide_eq_false (show ¬ (1 : Int) ≤ ((xs.length : Nat) : Int) by omega)]
          exact iteF ⟨_, rfl, iteT ⟨_, rfl, r0⟩⟩
        · rw [decide_eq_true (show (1 : Int) ≤ ((xs.length : Nat) : Int) by omega)]
          refine iteT ⟨_, _, rfl, rfl, _, rfl, ?_⟩
          rw [decide_eq_false (show ¬ ((xs.length : Nat) : Int) ≤ 8 by omega)]
          exact iteT ⟨_, rfl, r0⟩
      | @word a xs bs h h1 h8 al hb =>
        refine ⟨_, rfl, _, _, _, _, true, rfl, .ty "list", .base (.lst h), kit_ty (by decide +kernel), _, rfl, iteF ?_⟩
        refine ⟨_, rfl, a, xs, rfl, .inl (SqL.of h), _, _, rfl, rfl, _, rfl, ?_⟩
        rw [decide_eq_true (show (1 : Int) ≤ ((xs.length : Nat) : Int) by omega)]
        refine iteT ⟨_, _, rfl, rfl, _, rfl, ?_⟩
        rw [decide_eq_true (show ((xs.length : Nat) : Int) ≤ 8 by omega)]
        refine iteF ⟨_, rfl, a, rfl, ⟨_, SqL.of h⟩, fun D hD => ?_⟩
        refine lcF hr_same (walk_list (K := Z.K) (a := a) (xs := xs)) yat (ys := bs.map V.bl) (by rw [List.length_map]; exact al.1.symm) (by omega) hD trivial (fun H2 e2 => SqL.of (e2 _ _ h)) ?_ (fun H2 e2 hl2 => ?_)
        · rintro j y z H2 Qe hy hz e2 kk
          rw [List.getElem?_map] at hz
          cases hbj : bs[j]? with
          | none => rw [hbj] at hz; cases hz
          | some bj =>
            rw [hbj] at hz
            cases hz
            exact ⟨_, rfl, _, bj, rfl, (al.2 j y bj hy hbj).mono e2, fun H3 e3 => kk H3 e3⟩
        · refine ⟨D, bs, rfl, SqL.of hl2, ?_⟩
          rw [hb]
          exact ⟨_, rfl, iteT ⟨_, rfl, raised ho e2⟩⟩
    have hkl : (ks.map V.str).length = ks.length := List.length_map _
    have gk1 := gk.l1
    have gk8 := gk.l8
    refine ⟨_, rfl, _, _, _, _, true, rfl, .ty "list", .base (.lst ha), kit_ty (by decide +kernel), _, rfl, iteF ?_⟩
    refine ⟨_, rfl, a, _, rfl, .inl (SqL.of ha), _, _, rfl, rfl, _, rfl, ?_⟩
    rw [hkl, decide_eq_true (show (1 : Int) ≤ ((ks.length : Nat) : Int) by omega)]
    refine iteT ⟨_, _, rfl, rfl, _, rfl, ?_⟩
    rw [decide_eq_true (show ((ks.length : Nat) : Int) ≤ 8 by omega)]
    refine iteF ⟨_, rfl, a, rfl, ⟨_, SqL.of ha⟩, fun D hD => ?_⟩
    have alw := words_al (K := Z.K) (H := H) gk
    refine lcF hr_same (walk_list (K := Z.K) (a := a) (xs := ks.map V.str)) yat (ys := (ks.map fun _ => true).map V.bl) (by simp) (by omega) hD trivial (fun H2 e2 => SqL.of (e2 _ _ ha)) ?_ (fun H2 e2 hl2 => ?_)
    · rintro j y z H2 Qe hy hz e2 kk
      rw [List.getElem?_map] at hz
      cases hbj : (ks.map fun _ => true)[j]? with
      | none => rw [hbj] at hz; cases hz
      | some bj =>
        rw [hbj] at hz
        cases hz
        exact ⟨_, rfl, _, bj, rfl, (alw.2 j y bj hy hbj).mono e2, fun H3 e3 => kk H3 e3⟩
    refine ⟨D, _, rfl, SqL.of hl2, ?_⟩
    have ea : ((ks.map fun _ => true).all id) = true := by simp
    rw [ea]
    refine ⟨_, rfl, iteF ?_⟩
    refine ⟨_, rfl, a, _, rfl, .inl (SqL.of (e2 _ _ ha)), ?_⟩
    rw [hkl]
    -- the nexts
    have ha2 := e2 _ _ ha
    rcases ho with ⟨hb, ho⟩ | ⟨b, xs, bs, rfl, hb, hxl, al, hall, ho⟩
    · have r2 := raised ho e2
      cases hb with
      | odd ty hk => exact ⟨_, rfl, _, _, _, _, false, rfl, .ty "list", tyX_same e2 ty, hk, _, rfl, iteT ⟨_, rfl, r2⟩⟩
      | @len b xs h hl =>
        have h2 := e2 _ _ h
        refine ⟨_, rfl, _, _, _, _, true, rfl, .ty "list", .base (.lst h2), kit_ty (by decide +kernel), _, rfl, iteF ?_⟩
        refine ⟨_, rfl, b, xs, rfl, .inl (SqL.of h2), _, rfl, rfl, _, rfl, ?_⟩
        rw [decide_eq_false (show ¬ V.int ((xs.length : Nat) : Int) = V.int ((ks.length : Nat) : Int) from fun z => hl (by have := V.int.inj z; omega))]
        exact iteT ⟨_, rfl, r2⟩
      | @row b xs bs h hl al hb =>
        have h2 := e2 _ _ h
        refine ⟨_, rfl, _, _, _, _, true, rfl, .ty "list", .base (.lst h2), kit_ty (by decide +kernel), _, rfl, iteF ?_⟩
        refine ⟨_, rfl, b, xs, rfl, .inl (SqL.of h2), _, rfl, rfl, _, rfl, ?_⟩
        rw [decide_eq_true (show V.int ((xs.length : Nat) : Int) = V.int ((ks.length : Nat) : Int) from by rw [hl])]
        refine iteF ⟨_, rfl, b, rfl, ⟨_, SqL.of h2⟩, fun D2 hD2 => ?_⟩
        refine lcF hr_same (walk_list (K := Z.K) (a := b) (xs := xs)) yat (ys := bs.map V.bl) (by rw [List.length_map]; exact al.1.symm) (by omega) hD2 trivial (fun H3 e3 => SqL.of (e3 _ _ h2)) ?_ (fun H3 e3 hl3 => ?_)
        · rintro j y z H3 Qe hy hz e3 kk
          rw [List.getElem?_map] at hz
          cases hbj : bs[j]? with
          | none => rw [hbj] at hz; cases hz
          | some bj =>
            rw [hbj] at hz
            cases hz
            exact ⟨_, rfl, _, rfl, _, _, bj, rfl, (al.2 j y bj hy hbj).mono (e2.trans e3), fun H4 e4 => kk H4 e4⟩
        · refine ⟨D2, bs, rfl, SqL.of hl3, ?_⟩
          rw [hb]
          exact ⟨_, rfl, iteT ⟨_, rfl, raised ho (e2.trans e3)⟩⟩
    have hb2 := e2 _ _ hb
    refine ⟨_, rfl, _, _, _, _, true, rfl, .ty "list", .base (.lst hb2), kit_ty (by decide +kernel), _, rfl, iteF ?_⟩
    refine ⟨_, rfl, b, xs, rfl, .inl (SqL.of hb2), _, rfl, rfl, _, rfl, ?_⟩
    rw [decide_eq_true (show V.int ((xs.length : Nat) : Int) = V.int ((ks.length : Nat) : Int) from by rw [hxl])]
    refine iteF ⟨_, rfl, b, rfl, ⟨_, SqL.of hb2⟩, fun D2 hD2 => ?_⟩
    refine lcF hr_same (walk_list (K := Z.K) (a := b) (xs := xs)) yat (ys := bs.map V.bl) (by rw [List.length_map]; exact al.1.symm) (by omega) hD2 trivial (fun H3 e3 => SqL.of (e3 _ _ hb2)) ?_ (fun H3 e3 hl3 => ?_)
    · rintro j y z H3 Qe hy hz e3 kk
      rw [List.getElem?_map] at hz
      cases hbj : bs[j]? with
      | none => rw [hbj] at hz; cases hz
      | some bj =>
        rw [hbj] at hz
        cases hz
        exact ⟨_, rfl, _, rfl, _, _, bj, rfl, (al.2 j y bj hy hbj).mono (e2.trans e3), fun H4 e4 => kk H4 e4⟩
    refine ⟨D2, bs, rfl, SqL.of hl3, ?_⟩
    rw [hall]
    refine ⟨_, rfl, iteF ?_⟩
    -- the firsts
    have e03 := e2.trans e3
    rcases ho with ⟨hc, ho⟩ | ⟨c, R, rfl, hL, hG, hks, ho⟩
    · cases hc with
      | odd h => exact ⟨_, rfl, _, rfl, _, _, false, rfl, h.mono e03, fun H4 e4 => ⟨_, rfl, iteT ⟨_, rfl, raised ho (e03.trans e4)⟩⟩⟩
      | @nil c h =>
        have h3 := e03 _ _ h
        have q : NdsB Z.K ks.length H3 (.ref c) (decide ([] : List Int).Nodup) := .nds h3 (by simp) (by simp)
        refine ⟨_, rfl, _, rfl, _, _, _, rfl, q, fun H4 e4 => ⟨_, rfl, iteF ?_⟩⟩
        refine ⟨_, rfl, by decide, fun l hl => ?_⟩
        have e5 := Same.upd (o := .lst []) hl
        refine ⟨_, _, .lst (SqL.of (e5 _ _ (e4 _ _ h3))) .nil, .lst (SqL.of upd_same) .nil, rfl, rfl, _, rfl, iteT ⟨_, rfl, raised ho (e03.trans (e4.trans e5))⟩⟩
    have hcf := hL.fs
    have hc3 := e03 _ _ hcf
    have q : NdsB Z.K ks.length H3 (.ref c) (decide R.fs.Nodup) := .nds hc3 hG.fz (by rw [← hks]; exact hG.fx)
    rw [decide_eq_true hG.fd] at q
    refine ⟨_, rfl, _, rfl, _, _, _, rfl, q, fun H4 e4 => ⟨_, rfl, iteF ?_⟩⟩
    refine ⟨_, rfl, by decide, fun l hl => ?_⟩
    have e5 := Same.upd (o := .lst []) hl
    refine ⟨_, _, .lst (SqL.of (e5 _ _ (e4 _ _ hc3))) (DpAll.ints R.fs), .lst (SqL.of upd_same) .nil, shaped_ints R.fs, rfl, _, rfl, ?_⟩
    have en : PyData.eqv (.list (R.fs.map PyData.int)) (.list []) = false := by
      cases hf : R.fs with
      | nil => exact absurd hf hG.f0
      | cons y r => rfl
    rw [en]
    refine iteF ?_
    subst hks
    rw [ho] at k
    have e06 := e03.trans (e4.trans e5)
    have hx6 := e06 _ _ hx
    have ha6 := e06 _ _ ha
    have hb6 := e06 _ _ hb
    have hc6 := e06 _ _ hcf
    have hT6 : Tabs T0 (upd H4 l (.lst [])) := hT.ext e06
    show tSeq _ _ _ [some (.ref x), some (.ref a), some (.ref b), some (.ref c), none, some (.int ((R.ks.length : Nat) : Int)), none] (upd H4 l (.lst []))
    clear hl
    generalize (upd H4 l (.lst [])) = H6 at e06 hx6 ha6 hb6 hc6 hT6 ⊢
    refine ⟨_, rfl, a, _, rfl, .inl (SqL.of ha6), fun l1 hl1 => ?_⟩
    have hl1x : l1 ≠ x := (ne_of_none hx6 hl1).symm
    refine ⟨_, rfl, x, CR, dx, [], rfl, (by rw [upd_ne hl1x.symm]; exact hx6), C.cl, C.nK, (by show 0 < 1000; decide), ?_⟩
    have g7 : Gr T0 (some x) H (upd (upd H6 l1 (.lst (R.ks.map V.str))) x (.ins CR dx (putF "own_kinds" (.ref l1) []))) := (Gr.of e06).trans ((Gr.new hl1).trans (.self (by rw [upd_ne hl1x.symm]; exact hx6)))
    have hx7 : (upd (upd H6 l1 (.lst (R.ks.map V.str))) x (.ins CR dx (putF "own_kinds" (.ref l1) []))) x = some (.ins CR dx (putF "own_kinds" (.ref l1) [])) := upd_same
    have hl17 : (upd (upd H6 l1 (.lst (R.ks.map V.str))) x (.ins CR dx (putF "own_kinds" (.ref l1) []))) l1 = some (.lst (R.ks.map V.str)) := by rw [upd_ne hl1x, upd_same]
    generalize (upd (upd H6 l1 (.lst (R.ks.map V.str))) x (.ins CR dx (putF "own_kinds" (.ref l1) []))) = H7 at g7 hx7 hl17 ⊢
    have nx : ∀ {y : Addr} {u : List V}, H y = some (.lst u) → some y ≠ some x := fun h z => by
      rw [Option.some.inj z, hx] at h
      cases h
    have hb7 : H7 b = some (.lst xs) := g7.at hb (nx hb)
    have hT7 := g7.t hT
    obtain ⟨rs, hrs, alr⟩ := hL.nx
    obtain rfl : rs = xs := by
      rw [hb] at hrs
      exact (HO.lst.inj (Option.some.inj hrs)).symm
    -- the nexts, sorted
    refine ⟨_, rfl, b, rfl, ⟨_, SqL.of hb7⟩, fun D3 hD3 => ?_⟩
    refine lcR (hr_gr (T := T0) (p := none)) (walk_list (K := Z.K) (a := b) (xs := rs)) yat (bs := R.nx) (fun y ns H' => ∃ m, y = V.ref m ∧ m ≠ D3 ∧ H m = none ∧ H' m = some (.lst ((srtI ns).map V.int))) alr.1.symm (by omega) hD3 (by simp) (fun H2 g2 => SqL.of (g2.at hb7)) ?_ ?_ ?_ ?_
    · rintro y ns H2 H3 ⟨m, rfl, hm, hn, h⟩ g
      exact ⟨m, rfl, hm, hn, g.at h⟩
    · rintro y ns H2 us zs ⟨m, rfl, hm, hn, h⟩ _
      exact ⟨m, rfl, hm, hn, by rw [upd_ne hm]; exact h⟩
    · rintro j y ns H8 acc Qe hy hns g8 hD8 kk
      obtain ⟨m, rfl, hm⟩ := alr.2 j y ns hy hns
      have hm7 := g7.at hm (nx hm)
      obtain ⟨gn1, gn2⟩ := hG.nx ns (List.mem_of_getElem? hns)
      have h10 : ∀ n ∈ ns, 0 ≤ n ∧ n < 10 := fun n hn => by
        have := gn1 n hn
        omega
      refine ⟨_, rfl, m, _, rfl, g8.t hT7, .inl (SqL.of (g8.at hm7)), ?_, fun q H9 g9 hq hq9 => kk (.ref q) H9 g9 ⟨q, rfl, (ne_of_none hD8 hq).symm, g7.f q (g8.f q hq), ?_⟩⟩
      · rintro y hy
        obtain ⟨n, hn, rfl⟩ := List.mem_map.mp hy
        exact ktx_int (h10 n hn).1 (h10 n hn).2
      · rw [← srt_ints h10]
        exact hq9
    rintro H9 ys g9 hD9 al9
    have hx9 := g9.at hx7
    refine ⟨_, rfl, x, CR, dx, _, rfl, hx9, C.cl, C.nN, (by show 1 < 1000; decide), ?_⟩
    have g10 : Gr T0 (some x) H (upd H9 x (.ins CR dx (putF "own_nexts" (.ref D3) (putF "own_kinds" (.ref l1) [])))) := g7.trans (g9.up.trans (.self hx9))
    have hx10 : (upd H9 x (.ins CR dx (putF "own_nexts" (.ref D3) (putF "own_kinds" (.ref l1) [])))) x = some (.ins CR dx (putF "own_nexts" (.ref D3) (putF "own_kinds" (.ref l1) []))) := upd_same
    have ne9 : ∀ {y : Addr} {u : List V}, H9 y = some (.lst u) → y ≠ x := fun h z => by
      rw [z, hx9] at h
      cases h
    have hl110 : (upd H9 x (.ins CR dx (putF "own_nexts" (.ref D3) (putF "own_kinds" (.ref l1) [])))) l1 = some (.lst (R.ks.map V.str)) := by
      have z := g9.at hl17
      rw [upd_ne (ne9 z)]
      exact z
    have hD10 : (upd H9 x (.ins CR dx (putF "own_nexts" (.ref D3) (putF "own_kinds" (.ref l1) [])))) D3 = some (.lst ys) := by
      rw [upd_ne (ne9 hD9)]
      exact hD9
    have al10 : Al (IsInts (upd H9 x (.ins CR dx (putF "own_nexts" (.ref D3) (putF "own_kinds" (.ref l1) []))))) ys (R.nx.map srtI) := by
      refine ⟨by rw [List.length_map]; exact al9.1, fun i v q h1 h2 => ?_⟩
      rw [List.getElem?_map] at h2
      cases hn : R.nx[i]? with
      | none => rw [hn] at h2; cases h2
      | some ns =>
        rw [hn] at h2
        cases h2
        obtain ⟨m, rfl, _, _, hm⟩ := al9.2 i v ns h1 hn
        exact ⟨m, rfl, by rw [upd_ne (ne9 hm)]; exact hm⟩
    generalize (upd H9 x (.ins CR dx (putF "own_nexts" (.ref D3) (putF "own_kinds" (.ref l1) [])))) = H10 at g10 hx10 hl110 hD10 al10 ⊢
    -- the firsts, sorted
    have hf10 : ∀ n ∈ R.fs, 0 ≤ n ∧ n < 10 := fun n hn => by
      have := hG.fx n hn
      omega
    refine ⟨_, rfl, c, _, rfl, g10.t hT, .inl (SqL.of (g10.at hcf (nx hcf))), ?_, fun q H11 g11 hq hq11 => ?_⟩
    · rintro y hy
      obtain ⟨n, hn, rfl⟩ := List.mem_map.mp hy
      exact ktx_int (hf10 n hn).1 (hf10 n hn).2
    have hx11 := g11.at hx10
    refine ⟨_, rfl, x, CR, dx, _, rfl, hx11, C.cl, C.nF, (by show 2 < 1000; decide), ?_⟩
    have ne11 : ∀ {y : Addr} {u : List V}, H11 y = some (.lst u) → y ≠ x := fun h z => by
      rw [z, hx11] at h
      cases h
    rw [srt_ints hf10] at hq11
    refine k _ l1 D3 q (g10.trans (g11.up.trans (.self hx11))) upd_same ⟨?_, ⟨ys, ?_, ?_⟩, ?_⟩ ⟨e06.free hl1, g7.f D3 hD3, g10.f q hq, ?_⟩
    · have z := g11.at hl110
      rw [upd_ne (ne11 z)]
      exact z
    · have z := g11.at hD10
      rw [upd_ne (ne11 z)]
      exact z
    · refine al10.imp fun v ns h => ?_
      obtain ⟨m, rfl, hm⟩ := h
      have z := g11.at hm
      exact ⟨m, rfl, by rw [upd_ne (ne11 z)]; exact z⟩
    · rw [upd_ne (ne11 hq11)]
      exact hq11
    · intro rs' l h hl
      have z := g11.at hD10
      rw [upd_ne (ne11 z), z] at h
      obtain rfl : ys = rs' := HO.lst.inj (Option.some.inj h)
      obtain ⟨i, hi⟩ := List.getElem?_of_mem hl
      obtain ⟨ns, _, m, hm, _, hn, _⟩ := al9.get hi
      cases hm
      exact hn
end
end Ps

/-! Rows: nodes, ways. -/
namespace Ps
open PySem PySem.Spec PyProof.Rows PySem.W L2 LamX

def aheadR (R : RwD) : Option Int → List Int
  | none => R.fs
  | some i => (R.nx[i.toNat]?).getD []
def wayB (R : RwD) : Option Int → List Int → Bool
  | _, [] => true
  | p, n :: r => decide (n ∈ aheadR R p) && wayB R (some n) r
def kindsR (R : RwD) (ns : List Int) : List Str := ns.map fun n => (R.ks[n.toNat]?).getD ""
theorem inV_ints (n : Int) (ns : List Int) : inV (.int n) (ns.map V.int) = decide (n ∈ ns) := by
  unfold inV
  rw [List.any_map, Bool.eq_iff_iff, List.any_eq_true, decide_eq_true_eq]
  constructor
  · rintro ⟨m, hm, he⟩
    have : m = n := by simpa [eqV] using he
    rw [← this]
    exact hm
  · intro h
    exact ⟨n, h, by simp [eqV]⟩
theorem flat_ints (ns : List Int) : (ns.map V.int).all flatV = true := by
  rw [List.all_map, List.all_eq_true]
  intro n _
  rfl
theorem rwF_k (a b c : Addr) : (rwF a b c).lookup ("own_kinds" : Str) = some (V.ref a) := by unfold rwF; rfl
theorem rwF_n (a b c : Addr) : (rwF a b c).lookup ("own_nexts" : Str) = some (V.ref b) := by unfold rwF; rfl
theorem rwF_f (a b c : Addr) : (rwF a b c).lookup ("own_firsts" : Str) = some (V.ref c) := by unfold rwF; rfl
theorem RwL.mono {H H' : Hp} {a b c : Addr} {R : RwD} (e : Same H H') (L : RwL H a b c R) : RwL H' a b c R := by
  obtain ⟨h1, ⟨rs, h2, h3⟩, h4⟩ := L
  exact ⟨e _ _ h1, ⟨rs, e _ _ h2, h3.imp fun v ns ⟨l, hv, hl⟩ => ⟨l, hv, e _ _ hl⟩⟩, e _ _ h4⟩
theorem RwAt.mono {CR : Addr} {H H' : Hp} {v : V} {R : RwD} (e : Same H H') (h : RwAt CR H v R) : RwAt CR H' v R := by
  obtain ⟨x, dx, a, b, c, rfl, hx, L⟩ := h
  exact ⟨x, dx, a, b, c, rfl, e _ _ hx, L.mono e⟩
/-- an item that is an integer, or not -/
inductive ItB (K : Frag) (H : Hp) : V → Bool → Prop
  | int (n : Int) : ItB K H (.int n) true
  | odd {v : V} (h : NnI K H v) : ItB K H v false
def spCkR (K : Frag) (CR CA : Addr) : Sp := fun vs H Q E => ∃ v, vs = [v] ∧ ((∃ R, RwAt CR H v R ∧ Q .non H) ∨ (∃ t, TyX K H v t ∧ kitOne K t (.ref CR) = some false ∧ Rz CA "value" v H E))
def spCkN (K : Frag) (CR CN : Addr) : Sp := fun vs H Q E => ∃ v n R, vs = [v, n] ∧ RwAt CR H v R ∧ ((∃ i, n = .int i ∧ 0 ≤ i ∧ i < R.ks.length ∧ Q .non H) ∨ (∃ i, n = .int i ∧ ¬ (0 ≤ i ∧ i < R.ks.length) ∧ Rz CN "value" n H E) ∨ (NnI K H n ∧ Rz CN "value" n H E))
def spKind (K : Frag) (CR CN : Addr) : Sp := fun vs H Q E => ∃ v n R, vs = [v, n] ∧ RwAt CR H v R ∧ ((∃ i z, n = .int i ∧ 0 ≤ i ∧ R.ks[i.toNat]? = some z ∧ Q (.str z) H) ∨ (∃ i, n = .int i ∧ ¬ (0 ≤ i ∧ i < R.ks.length) ∧ Rz CN "value" n H E) ∨ (NnI K H n ∧ Rz CN "value" n H E))
def spBehind (CR : Addr) : Sp := fun vs H Q _ => ∃ v p R, vs = [v, p] ∧ RwAt CR H v R ∧ ((p = .non ∧ ∀ c, H c = some (.lst (R.fs.map V.int)) → Q (.ref c) H) ∨ (∃ i ns, p = .int i ∧ 0 ≤ i ∧ R.nx[i.toNat]? = some ns ∧ ∀ l, H l = some (.lst (ns.map V.int)) → Q (.ref l) H))
def spIsWay (K : Frag) (CR CA : Addr) : Sp := fun vs H Q E => ∃ v w, vs = [v, w] ∧ ((∃ t, TyX K H v t ∧ kitOne K t (.ref CR) = some false ∧ Rz CA "value" v H E) ∨
  (∃ R, RwAt CR H v R ∧ RwG R ∧ ((∃ t, TyX K H w t ∧ kitOne K t (.type "list") = some false ∧ Q (.bl false) H) ∨
    (∃ a xs, w = .ref a ∧ H a = some (.lst xs) ∧ xs.length ≤ 1000 ∧ ((∃ bs, Al (ItB K H) xs bs ∧ bs.all id = false ∧ ∀ H', Same H H' → Q (.bl false) H') ∨ (∃ ns, xs = ns.map V.int ∧ ∀ H', Same H H' → Q (.bl (wayB R none ns)) H'))))))
def spKind0 (CR : Addr) : Sp := fun vs H Q _ => ∃ v i R z, vs = [v, .int i] ∧ RwAt CR H v R ∧ 0 ≤ i ∧ R.ks[i.toNat]? = some z ∧ Q (.str z) H
def spKindsOf (K : Frag) (CR CA CW : Addr) : Sp := fun vs H Q E => ∃ v w, vs = [v, w] ∧ ((∃ t, TyX K H v t ∧ kitOne K t (.ref CR) = some false ∧ Rz CA "value" v H E) ∨
  (∃ R, RwAt CR H v R ∧ RwG R ∧ ((∃ t, TyX K H w t ∧ kitOne K t (.type "list") = some false ∧ Rz CW "value" w H E) ∨
    (∃ a xs, w = .ref a ∧ H a = some (.lst xs) ∧ xs.length ≤ 1000 ∧ ((∃ bs, Al (ItB K H) xs bs ∧ bs.all id = false ∧ Rz CW "value" w H E) ∨ (∃ ns, xs = ns.map V.int ∧ ((wayB R none ns = false ∧ Rz CW "value" w H E) ∨ (wayB R none ns = true ∧ ∀ H' p, Same H H' → H p = none → H' p = some (.lst ((kindsR R ns).map V.str)) → Q (.ref p) H'))))))))
section
variable {Z : Cz} {f CR CA CN P fA fN : Addr} {fd : FuncData}
theorem RwC.ty {Z : Cz} {CR : Addr} (C : RwC Z CR) {H : Hp} {a dx : Addr} {fs : List (Str × V)} (h : H a = some (.ins CR dx fs)) : TyX Z.K H (.ref a) (.ref CR) := .base (.ins h C.cl C.ha C.hn C.htk C.hm)
theorem ok_check_node (F : Fun Z.K "check_node" "Rows.check_node" s_Rows_check_node f fd) (T : RwB Z) (C : RwC Z CR) (TN : ExT Z.K Z.mg "NoNode" "value" "NoNode.__init__" CN P fN) (c_is_integer : Cal Z CX0 1 "is_integer" ["value"] [] (spIsInt Z.K)) :
    Z.ok (CXN Z) 3 f fd ["self", "node"] (spCkN Z.K CR CN) := by
  refine Fun.okN F sc_Rows_check_node (fun vs H Q E h => ?_) (fun cdv A outer s H vs Q E hr h => ?_)
  · obtain ⟨v, n, R, rfl, _⟩ := h
    rfl
  · obtain ⟨v, n, R, rfl, hR, h⟩ := h
    obtain ⟨x, dx, a, b, c, rfl, hx, L⟩ := hR
    refine ⟨_, (pss_one (ps_if (PW.pt (pw_or (pt_not (pt_val (pe_cal c_is_integer (hr.mono (by decide)) (by rfl) pass0 (pa_cons (pv 1) pa_nil)))) (pw_or1 (pt_not (pt_chain op_le op_lt pe_int (pv 1) (pe_callB call_len_seq (by rfl) T.len PySem.boot_len (pa_cons (pe_fld (pv 0) rfl) pa_nil)))))))
      (pss_one (ps_raiseX TN fl_value hr (L2N.takes_of rfl rfl rfl rfl) (pa_cons (pv 1) pa_nil) rfl))
      pss_nil)), ?_⟩
    rcases h with ⟨i, rfl, h0, h1, k⟩ | ⟨i, rfl, hn, hz⟩ | ⟨⟨t, ty, ht⟩, hz⟩
    · refine ⟨_, rfl, _, _, rfl, .base (.int i), .inl ⟨rfl, ⟨_, rfl, iteF ?_⟩⟩⟩
      refine ⟨_, rfl, _, _, rfl, rfl, _, rfl, ?_⟩
      rw [decide_eq_true h0]
      refine iteT ⟨_, rfl, x, CR, dx, _, _, rfl, hx, C.cl, C.nK, rwF_k a b c, a, _, rfl, .inl (SqL.of L.ks), ?_⟩
      rw [List.length_map]
      refine ⟨_, _, rfl, rfl, _, rfl, ?_⟩
      rw [decide_eq_true h1]
      exact iteF k
    · refine ⟨_, rfl, _, _, rfl, .base (.int i), .inl ⟨rfl, ⟨_, rfl, iteF ?_⟩⟩⟩
      refine ⟨_, rfl, _, _, rfl, rfl, _, rfl, ?_⟩
      by_cases h0 : 0 ≤ i
      · rw [decide_eq_true h0]
        refine iteT ⟨_, rfl, x, CR, dx, _, _, rfl, hx, C.cl, C.nK, rwF_k a b c, a, _, rfl, .inl (SqL.of L.ks), ?_⟩
        rw [List.length_map]
        refine ⟨_, _, rfl, rfl, _, rfl, ?_⟩
        rw [decide_eq_false (show ¬ i < ((R.ks.length : Nat) : Int) from fun z => hn ⟨h0, z⟩)]
        exact iteT ⟨_, rfl, _, rfl, hz.now⟩
      · rw [decide_eq_false h0]
        exact iteF ⟨_, rfl, iteT ⟨_, rfl, _, rfl, hz.now⟩⟩
    · rcases ht with rfl | ht
      · exact ⟨_, rfl, _, _, rfl, ty, .inr (.inl ⟨rfl, ⟨_, rfl, iteT ⟨_, rfl, _, rfl, hz.now⟩⟩⟩)⟩
      · exact ⟨_, rfl, _, _, rfl, ty, .inr (.inr ⟨ht, ⟨_, rfl, iteT ⟨_, rfl, _, rfl, hz.now⟩⟩⟩)⟩
theorem ok_kind (F : Fun Z.K "kind" "Rows.kind" s_Rows_kind f fd) (C : RwC Z CR) (c_check_node : CalM Z (CXN Z) 3 CR "check_node" ["self", "node"] [] (spCkN Z.K CR CN)) : Z.ok (CXN Z) 4 f fd ["self", "node"] (spKind Z.K CR CN) := by
  refine Fun.okN F sc_Rows_kind (fun vs H Q E h => ?_) (fun cdv A outer s H vs Q E hr h => ?_)
  · obtain ⟨v, n, R, rfl, _⟩ := h
    rfl
  · obtain ⟨v, n, R, rfl, hR, h⟩ := h
    obtain ⟨x, dx, a, b, c, rfl, hx, L⟩ := id hR
    refine ⟨_, (pss_cons (ps_expr (pe_calM c_check_node (hr.mono (by decide)) (passN (L2N.takes_of rfl rfl rfl rfl)) (pv 0) (pa_cons (pv 1) pa_nil)))
      (pss_one (ps_ret (pe_ix ix_list (pe_fld (pv 0) rfl) (pv 1) (fun _ _ => rfl))))), ?_⟩
    refine ⟨_, rfl, x, dx, _, rfl, hx, rfl, _, rfl, _, _, R, rfl, hR, ?_⟩
    rcases h with ⟨i, z, rfl, h0, hz, k⟩ | h | h
    · have h1 := (List.getElem?_eq_some_iff.mp hz).1
      refine .inl ⟨i, rfl, h0, by omega, ?_⟩
      refine ⟨_, rfl, x, CR, dx, _, _, rfl, hx, C.cl, C.nK, rwF_k a b c, _, rfl, a, _, i, .str z, rfl, rfl, SqL.of L.ks, ?_, k⟩
      have e : i = ((i.toNat : Nat) : Int) := by omega
      rw [e]
      exact atI_nat (by rw [List.getElem?_map, hz]; rfl)
    · exact .inr (.inl h)
    · exact .inr (.inr h)
theorem ok_behind (F : Fun Z.K "behind" "Rows.behind" s_Rows_behind f fd) (C : RwC Z CR) : Z.ok CX0 1 f fd ["self", "node"] (spBehind CR) := by
  refine F.ok sc_Rows_behind (fun vs H Q E h => ?_) (fun cdv A outer s H vs Q E hr h => ?_)
  · obtain ⟨v, p, R, rfl, _⟩ := h
    rfl
  · obtain ⟨v, p, R, rfl, hR, h⟩ := h
    obtain ⟨x, dx, a, b, c, rfl, hx, L⟩ := hR
    refine ⟨_, (pss_one (ps_ret (pe_ifExp (pt_cmpR op_isN (pv 1) pe_non (nomark _)) (pe_fld (pv 0) rfl) (pe_ix ix_list (pe_fld (pv 0) rfl) (pv 1) (fun _ _ => rfl))))), ?_⟩
    rcases h with ⟨rfl, k⟩ | ⟨i, ns, rfl, h0, hz, k⟩
    · exact ⟨_, rfl, rfl, _, rfl, iteT ⟨_, rfl, x, CR, dx, _, _, rfl, hx, C.cl, C.nF, rwF_f a b c, k c L.fs⟩⟩
    · obtain ⟨rs, hb, al⟩ := L.nx
      have h1 := (List.getElem?_eq_some_iff.mp hz).1
      have h2 : i.toNat < rs.length := by rw [al.1]; exact h1
      obtain ⟨l, hl, hl2⟩ := al.2 i.toNat rs[i.toNat] ns (List.getElem?_eq_getElem h2) hz
      refine ⟨_, rfl, rfl, _, rfl, iteF ⟨_, rfl, x, CR, dx, _, _, rfl, hx, C.cl, C.nN, rwF_n a b c, _, rfl, b, _, i, .ref l, rfl, rfl, SqL.of hb, ?_, k l hl2⟩⟩
      have e : i = ((i.toNat : Nat) : Int) := by omega
      rw [e]
      exact atI_nat (by rw [List.getElem?_eq_getElem h2, hl])
end
theorem ahead_ok {R : RwD} (g : RwG R) {p : Option Int} {n : Int} (h : n ∈ aheadR R p) : 0 ≤ n ∧ n < R.ks.length := by
  cases p with
  | none => exact g.fx n h
  | some i =>
    have h' : n ∈ (R.nx[i.toNat]?).getD [] := h
    cases hi : R.nx[i.toNat]? with
    | none => rw [hi] at h'; cases h'
    | some ns =>
      rw [hi] at h'
      exact (g.nx ns (List.mem_of_getElem? hi)).1 n h'
theorem way_ok {R : RwD} (g : RwG R) : ∀ {ns : List Int} {p : Option Int}, wayB R p ns = true → ∀ n ∈ ns, 0 ≤ n ∧ n < R.ks.length
  | [], _, _, n, hn => by cases hn
  | m :: r, p, h, n, hn => by
    have h' := (Bool.and_eq_true _ _).mp h
    rcases List.mem_cons.mp hn with rfl | hn
    · exact ahead_ok g (of_decide_eq_true h'.1)
    · exact way_ok g h'.2 n hn
section
variable {Z : Cz} {f CR CA CN CW P fA fN fW : Addr} {fd : FuncData}
theorem kindsR_ok {R : RwD} {ns : List Int} (h : ∀ n ∈ ns, 0 ≤ n ∧ n < R.ks.length) {j : Nat} {n : Int} (hn : ns[j]? = some n) : ∃ z, R.ks[n.toNat]? = some z ∧ (kindsR R ns)[j]? = some z := by
  have := h n (List.mem_of_getElem? hn)
  have hz : n.toNat < R.ks.length := by omega
  refine ⟨R.ks[n.toNat], List.getElem?_eq_getElem hz, ?_⟩
  unfold kindsR
  rw [List.getElem?_map, hn]
  show some ((R.ks[n.toNat]?).getD "") = _
  rw [List.getElem?_eq_getElem hz]
  rfl
end
end Ps

/-! The repr of a short list of digits. -/
namespace Ps
open PySem PySem.Spec PyProof.Rows PySem.W L2

theorem dig_short : ∀ a : Fin 10, (PyData.shown (.int ((a.val : Nat) : Int))).length ≤ 8 := by decide +kernel
theorem dig_sh {i : Int} (h0 : 0 ≤ i) (h1 : i < 10) : (PyData.shown (.int i)).length ≤ 8 := by
  have := dig_short ⟨i.toNat, by omega⟩
  have e : (((⟨i.toNat, by omega⟩ : Fin 10).val : Nat) : Int) = i := by show ((i.toNat : Nat) : Int) = i; omega
  rw [e] at this
  exact this
theorem rp_ints {ns : List Int} (h : ∀ n ∈ ns, 0 ≤ n ∧ n < 10) (hl : ns.length ≤ 60) : Rp (.list (ns.map PyData.int)) := by
  have s1 : PyData.showable (.list (ns.map PyData.int)) = true := by
    show PyData.showableAll (ns.map PyData.int) = true
    clear hl
    induction ns with
    | nil => rfl
    | cons n r ih =>
      show (PyData.showable (.int n) && PyData.showableAll (r.map PyData.int)) = true
      rw [ih fun m hm => h m (List.mem_cons_of_mem _ hm)]
      have hn := h n (List.mem_cons_self ..)
      have : n.natAbs < 10 := by omega
      rw [show PyData.showable (.int n) = decide (n.natAbs.log2 < 1920) from rfl, decide_eq_true (Nat.lt_of_le_of_lt (Nat.log2_le_self _) (by omega))]
      rfl
  have s2 : PyData.hasDict (.list (ns.map PyData.int)) = false := by
    show PyData.hasDictAll (ns.map PyData.int) = false
    clear hl h s1
    induction ns with
    | nil => rfl
    | cons n r ih =>
      show (PyData.hasDict (.int n) || PyData.hasDictAll (r.map PyData.int)) = false
      rw [ih]
      rfl
  have s3 : PyData.depth (.list (ns.map PyData.int)) ≤ 50 := by
    show PyData.depthAll (ns.map PyData.int) + 1 ≤ 50
    rw [PyProof.Rows.depthAll_ints]
    decide
  have s4 : PyData.leavesShort 8 (.list (ns.map PyData.int)) = true := by
    show PyData.leavesShortAll 8 (ns.map PyData.int) = true
    clear hl s1 s2 s3
    induction ns with
    | nil => rfl
    | cons n r ih =>
      show (PyData.leavesShort 8 (.int n) && PyData.leavesShortAll 8 (r.map PyData.int)) = true
      rw [ih fun m hm => h m (List.mem_cons_of_mem _ hm)]
      have hn := h n (List.mem_cons_self ..)
      rw [show PyData.leavesShort 8 (.int n) = decide ((PyData.shown (.int n)).length ≤ 8) from rfl, decide_eq_true (dig_sh hn.1 hn.2)]
      rfl
  have s5 : PyData.bulk (.list (ns.map PyData.int)) ≤ 2 * ns.length + 2 := by
    show PyData.bulkAll (ns.map PyData.int) ≤ _
    clear hl h s1 s2 s3 s4
    induction ns with
    | nil => decide
    | cons n r ih =>
      show 0 + 1 + PyData.bulkAll (r.map PyData.int) ≤ _
      rw [List.length_cons]
      omega
  have s6 := PyData.shown_le_bulk 8 (by decide) _ s4
  exact ⟨s1, s2, s3, by omega⟩
theorem DpAll.strs {K : Frag} {H : Hp} : ∀ zs : List Str, DpAll K H (zs.map V.str) (zs.map PyData.str)
  | [] => .nil
  | z :: r => .cons (.str z) (DpAll.strs r)
theorem shaped_strs {zs : List Str} (h : ∀ z ∈ zs, PyData.strOk z = true) : SeqAt.shaped (.list (zs.map PyData.str)) = true := by
  have h1 : PyData.canLayAll0 (zs.map PyData.str) = true := by
    induction zs with
    | nil => rfl
    | cons z r ih =>
      show (PyData.canLay0 (.str z) && PyData.canLayAll0 (r.map PyData.str)) = true
      rw [ih fun y hy => h y (List.mem_cons_of_mem _ hy)]
      show (PyData.strOk z && true) = true
      rw [h z (List.mem_cons_self ..)]
      rfl
  have h2 : PyData.depthAll (zs.map PyData.str) = 0 := by
    induction zs with
    | nil => rfl
    | cons z r ih =>
      show max (PyData.depth (.str z)) (PyData.depthAll (r.map PyData.str)) = 0
      have h1' : (PyData.canLay0 (.str z) && PyData.canLayAll0 (r.map PyData.str)) = true := h1
      rw [ih (fun y hy => h y (List.mem_cons_of_mem _ hy)) ((Bool.and_eq_true _ _).mp h1').2]
      rfl
  show (PyData.canLayAll0 (zs.map PyData.str) && decide (PyData.depthAll (zs.map PyData.str) + 1 ≤ 64)) = true
  rw [h1, h2]
  rfl
theorem eqv_same {d : PyData} (h : SeqAt.shaped d = true) : PyData.eqv d d = true := SeqAt.eqv_refl d (SeqAt.canLay_of_shaped h)
end Ps

/-! len(x) of an instance with an own __len__. -/
namespace Ps
open PySem PySem.Spec PyProof.Rows PySem.W L2

def rLenO (C : Addr) (sp : Sp) (E : XK) : List V → Hp → VK → Prop := fun xs H Q => ∃ x, xs = [x] ∧ InsC C H x ∧ sp [x] H (fun v H' => ∃ n : Nat, v = .int n ∧ n ≤ 100000 ∧ Q (.int n) H') E
theorem len_cal {Z : Cz} {X : Cx} {CX : CXT} {k : Nat} {C : Addr} {ps : List Str} {sp : Sp} {E : XK} (c : CalS Z CX k C "__len__" ps sp) (hr : Room (k + 1) X.A) (hx : Passes CX X E) (z : InZ Z X := by exact ⟨rfl, rfl, rfl, rfl, rfl⟩) : CallR X (.builtin "len") (rLenO C sp E) := by
  obtain ⟨f, fd, G, O, hb⟩ := c
  rw [← z.K] at O hb
  intro pins s σ H xs us Q I r h
  obtain ⟨x, rfl, ⟨a, dx, fs, rfl, ha⟩, h⟩ := h
  obtain ⟨u, rfl, r1⟩ := vals1 r
  cases (show u = Value.ref a from r1)
  obtain ⟨mA, J, _⟩ := ins_get I.hok ha
  obtain ⟨od, J, _⟩ := J.look
  obtain ⟨m, Fr⟩ := I.fr
  refine len_K Fr I.mod.kin J O.fn O.isf (wpAny_mono (run_fn1 (us := [.ref a]) (vs := [.ref a]) (z.ok G) hr hb hx I (.cons rfl .nil) h) (fun v s' q => ?_) fun _ _ z => z)
  obtain ⟨y, H1, I1, r1, n, rfl, hn, q⟩ := q
  obtain ⟨t, rfl⟩ := r1
  exact ⟨⟨by omega, by omega⟩, .int n, H1, I1.tok _, ⟨_, rfl⟩, q⟩
end Ps

/-! Rows: len, nexts, firsts, ==. -/
namespace Ps
open PySem PySem.Spec PyProof.Rows PySem.W L2 LamX

/-- rows as data -/
def nxD (nx : List (List Int)) : List PyData := nx.map fun ns => .list (ns.map PyData.int)
def RwDt (R : RwD) : PyData := .tuple [.list (R.ks.map PyData.str), .list (nxD R.nx), .list (R.fs.map PyData.int)]
def spRLen (CR : Addr) : Sp := fun vs H Q _ => ∃ v R, vs = [v] ∧ RwAt CR H v R ∧ Q (.int (R.ks.length : Nat)) H
def spRNexts (K : Frag) (CR CN : Addr) : Sp := fun vs H Q E => ∃ v n R, vs = [v, n] ∧ RwAt CR H v R ∧ ((∃ i ns, n = .int i ∧ 0 ≤ i ∧ i < R.ks.length ∧ R.nx[i.toNat]? = some ns ∧ ∀ l H', Same H H' → H l = none → H' l = some (.lst (ns.map V.int)) → Q (.ref l) H') ∨ (∃ i, n = .int i ∧ ¬ (0 ≤ i ∧ i < R.ks.length) ∧ Rz CN "value" n H E) ∨ (NnI K H n ∧ Rz CN "value" n H E))
def spRFirsts (CR : Addr) : Sp := fun vs H Q _ => ∃ v R, vs = [v] ∧ RwAt CR H v R ∧ ∀ l H', Same H H' → H l = none → H' l = some (.lst (R.fs.map V.int)) → Q (.ref l) H'
def spRwEq (K : Frag) (CR : Addr) : Sp := fun vs H Q _ => ∃ x y R, vs = [x, y] ∧ RwAt CR H x R ∧ RwG R ∧ ((∃ R', RwAt CR H y R' ∧ RwG R' ∧ ∀ H', Same H H' → Q (.bl (PyData.eqv (RwDt R) (RwDt R'))) H') ∨ (∃ t, TyX K H y t ∧ kitOne K t (.ref CR) = some false ∧ Q (.bl false) H))
theorem nx_dp {K : Frag} {H : Hp} : ∀ {rs : List V} {nx : List (List Int)}, Al (IsInts H) rs nx → DpAll K H rs (nxD nx)
  | [], [], _ => .nil
  | [], _ :: _, h => by cases h.1
  | _ :: _, [], h => by cases h.1
  | r :: rs, ns :: nx, h => by
    obtain ⟨⟨l, rfl, hl⟩, h2⟩ := Al.uncons h
    exact .cons (.lst (SqL.of hl) (DpAll.ints ns)) (nx_dp h2)
theorem RwL.dps {K : Frag} {H : Hp} {a b c : Addr} {R : RwD} (L : RwL H a b c R) : DpAll K H [.ref a, .ref b, .ref c] [.list (R.ks.map PyData.str), .list (nxD R.nx), .list (R.fs.map PyData.int)] := by
  obtain ⟨rs, hb, al⟩ := L.nx
  exact .cons (.lst (SqL.of L.ks) (DpAll.strs _)) (.cons (.lst (SqL.of hb) (nx_dp al)) (.cons (.lst (SqL.of L.fs) (DpAll.ints _)) .nil))
section
variable {Z : Cz} {f CR CN : Addr} {fd : FuncData}
theorem ok_rlen (F : Fun Z.K "__len__" "Rows.__len__" s_Rows_dd_len f fd) (T : RwB Z) (C : RwC Z CR) : Z.ok CX0 1 f fd ["self"] (spRLen CR) := by
  refine F.ok sc_Rows_dd_len (fun vs H Q E h => ?_) (fun cdv A outer s H vs Q E hr h => ?_)
  · obtain ⟨v, R, rfl, _⟩ := h
    rfl
  · obtain ⟨v, R, rfl, hR, k⟩ := h
    obtain ⟨x, dx, a, b, c, rfl, hx, L⟩ := hR
    refine ⟨_, (pss_one (ps_ret (pe_callB call_len_seq (by rfl) T.len PySem.boot_len (pa_cons (pe_fld (pv 0) rfl) pa_nil)))), ?_⟩
    refine ⟨_, rfl, x, CR, dx, _, _, rfl, hx, C.cl, C.nK, rwF_k a b c, a, _, rfl, .inl (SqL.of L.ks), ?_⟩
    rw [List.length_map]
    exact k
theorem ok_rfirsts (F : Fun Z.K "firsts" "Rows.firsts" s_Rows_firsts f fd) (T : RwB Z) (C : RwC Z CR) : Z.ok CX0 1 f fd ["self"] (spRFirsts CR) := by
  refine F.ok sc_Rows_firsts (fun vs H Q E h => ?_) (fun cdv A outer s H vs Q E hr h => ?_)
  · obtain ⟨v, R, rfl, _⟩ := h
    rfl
  · obtain ⟨v, R, rfl, hR, k⟩ := h
    obtain ⟨x, dx, a, b, c, rfl, hx, L⟩ := hR
    refine ⟨_, (pss_one (ps_ret (pe_callTy call_list_of (by rfl) T.list (by decide +kernel) (pa_cons (pe_fld (pv 0) rfl) pa_nil)))), ?_⟩
    exact ⟨_, rfl, x, CR, dx, _, _, rfl, hx, C.cl, C.nF, rwF_f a b c, c, _, rfl, .inl (SqL.of L.fs), fun l hl => k l _ (Same.upd hl) hl upd_same⟩
theorem ok_rnexts (F : Fun Z.K "nexts" "Rows.nexts" s_Rows_nexts f fd) (T : RwB Z) (C : RwC Z CR) (c_check_node : CalM Z (CXN Z) 3 CR "check_node" ["self", "node"] [] (spCkN Z.K CR CN)) : Z.ok (CXN Z) 4 f fd ["self", "node"] (spRNexts Z.K CR CN) := by
  refine Fun.okN F sc_Rows_nexts (fun vs H Q E h => ?_) (fun cdv A outer s H vs Q E hr h => ?_)
  · obtain ⟨v, n, R, rfl, _⟩ := h
    rfl
  · obtain ⟨v, n, R, rfl, hR, h⟩ := h
    obtain ⟨x, dx, a, b, c, rfl, hx, L⟩ := id hR
    refine ⟨_, (pss_cons (ps_expr (pe_calM c_check_node (hr.mono (by decide)) (passN (L2N.takes_of rfl rfl rfl rfl)) (pv 0) (pa_cons (pv 1) pa_nil)))
      (pss_one (ps_ret (pe_callTy call_list_of (by rfl) T.list (by decide +kernel) (pa_cons (pe_ix ix_list (pe_fld (pv 0) rfl) (pv 1) (fun _ _ => rfl)) pa_nil))))), ?_⟩
    refine ⟨_, rfl, x, dx, _, rfl, hx, rfl, _, rfl, _, _, R, rfl, hR, ?_⟩
    rcases h with ⟨i, ns, rfl, h0, h1, hz, k⟩ | h | h
    · refine .inl ⟨i, rfl, h0, h1, ?_⟩
      obtain ⟨rs, hb, al⟩ := L.nx
      have h2 := (List.getElem?_eq_some_iff.mp hz).1
      have h3 : i.toNat < rs.length := by rw [al.1]; exact h2
      obtain ⟨l, hl, hl2⟩ := al.2 i.toNat rs[i.toNat] ns (List.getElem?_eq_getElem h3) hz
      refine ⟨_, rfl, x, CR, dx, _, _, rfl, hx, C.cl, C.nN, rwF_n a b c, _, rfl, b, _, i, .ref l, rfl, rfl, SqL.of hb, ?_, l, _, rfl, .inl (SqL.of hl2), fun l3 hl3 => k l3 _ (Same.upd hl3) hl3 upd_same⟩
      have e : i = ((i.toNat : Nat) : Int) := by omega
      rw [e]
      exact atI_nat (by rw [List.getElem?_eq_getElem h3, hl])
    · exact .inr (.inl h)
    · exact .inr (.inr h)
theorem isW_strOk {z : Str} (h : isW z = true) : PyData.strOk z = true := by
  unfold isW at h
  have h2 := List.all_eq_true.mp ((Bool.and_eq_true _ _).mp h).2
  have lo : ∀ c ∈ letters.cps.toList, c < 0x110000 := by decide +kernel
  unfold PyData.strOk
  rw [← Array.all_toList, List.all_eq_true]
  intro c hc
  exact decide_eq_true (lo c (of_decide_eq_true (h2 c hc)))
theorem lay_nx : ∀ nx : List (List Int), PyData.canLayAll0 (nxD nx) = true ∧ PyData.depthAll (nxD nx) ≤ 1
  | [] => ⟨rfl, by decide⟩
  | ns :: nx => by
    obtain ⟨h1, h2⟩ := lay_nx nx
    have h3 := SeqAt.canLay_of_shaped (shaped_ints ns)
    have h4 : PyData.depth (.list (ns.map PyData.int)) = 1 := by
      show PyData.depthAll (ns.map PyData.int) + 1 = 1
      rw [PyProof.Rows.depthAll_ints]
    refine ⟨?_, ?_⟩
    · show (PyData.canLay0 (.list (ns.map PyData.int)) && PyData.canLayAll0 (nxD nx)) = true
      rw [h3, h1]
      rfl
    · show max (PyData.depth (.list (ns.map PyData.int))) (PyData.depthAll (nxD nx)) ≤ 1
      omega
theorem RwDt.shaped {R : RwD} (g : RwG R) : SeqAt.shaped (RwDt R) = true := by
  have h1 := shaped_strs (zs := R.ks) fun z hz => isW_strOk (g.k.w z hz)
  have h2 := lay_nx R.nx
  have h3 := shaped_ints R.fs
  have d1 : PyData.depth (.list (R.ks.map PyData.str)) ≤ 64 := SeqAt.depth_of_shaped h1
  have e1 : PyData.depth (.list (R.ks.map PyData.str)) = 1 := by
    show PyData.depthAll (R.ks.map PyData.str) + 1 = 1
    generalize R.ks = zs
    induction zs with
    | nil => rfl
    | cons z r ih =>
      show max (PyData.depth (.str z)) (PyData.depthAll (r.map PyData.str)) + 1 = 1
      have : PyData.depthAll (r.map PyData.str) = 0 := by omega
      rw [this]
      rfl
  have e3 : PyData.depth (.list (R.fs.map PyData.int)) = 1 := by
    show PyData.depthAll (R.fs.map PyData.int) + 1 = 1
    rw [PyProof.Rows.depthAll_ints]
  have hd : PyData.depth (RwDt R) ≤ 64 := by
    show max (PyData.depth (.list (R.ks.map PyData.str))) (max (PyData.depth (.list (nxD R.nx))) (max (PyData.depth (.list (R.fs.map PyData.int))) 0)) + 1 ≤ 64
    have e2 : PyData.depth (.list (nxD R.nx)) = PyData.depthAll (nxD R.nx) + 1 := rfl
    have := h2.2
    omega
  have hc : PyData.canLay0 (RwDt R) = true := by
    show (PyData.canLay0 (.list (R.ks.map PyData.str)) && (PyData.canLayAll0 (nxD R.nx) && (PyData.canLay0 (.list (R.fs.map PyData.int)) && true))) = true
    rw [SeqAt.canLay_of_shaped h1, h2.1, SeqAt.canLay_of_shaped h3]
    rfl
  unfold SeqAt.shaped
  rw [hc, decide_eq_true hd]
  rfl
theorem ok_rweq (F : Fun Z.K "__eq__" "Rows.__eq__" s_Rows_dd_eq f fd) (T : RwB Z) (C : RwC Z CR) : Z.ok CX0 2 f fd ["self", "other"] (spRwEq Z.K CR) := by
  refine F.ok sc_Rows_dd_eq (fun vs H Q E h => ?_) (fun cdv A outer s H vs Q E hr h => ?_)
  · obtain ⟨x, y, R, rfl, _⟩ := h
    rfl
  · obtain ⟨v, w, R, rfl, hR, hG, h⟩ := h
    obtain ⟨x, dx, a, b, c, rfl, hx, L⟩ := hR
    refine ⟨_, (pss_cons (ps_if (pt_not (pt_val (pe_callB call_isi (by rfl) T.isi (by decide +kernel) (pa_cons (pv 1) (pa_cons (pe_glob (v := .ref CR) rfl C.mg rfl) pa_nil)))))
      (pss_one (ps_ret pe_bl))
      pss_nil)
      (pss_cons (ps_set (i := 2) sc_Rows_dd_eq.nd rfl (Or.inl rfl) (pe_tup (pa_cons (pe_fld (pv 0) rfl) (pa_cons (pe_fld (pv 0) rfl) (pa_cons (pe_fld (pv 0) rfl) pa_nil)))))
      (pss_one (ps_ret (pe_cmpR (op_eqD hr.units) (pv 2) (pe_tup (pa_cons (pe_fld (pv 1) rfl) (pa_cons (pe_fld (pv 1) rfl) (pa_cons (pe_fld (pv 1) rfl) pa_nil)))) (nomark _)))))), ?_⟩
    rcases h with ⟨R', hR', hG', k⟩ | ⟨t, ty, hk, k⟩
    · obtain ⟨y, dy, a', b', c', rfl, hy, L'⟩ := hR'
      refine ⟨_, rfl, _, _, _, _, true, rfl, .own CR, C.ty hy, C.kCC, _, rfl, iteF ?_⟩
      refine ⟨_, rfl, x, CR, dx, _, _, rfl, hx, C.cl, C.nK, rwF_k a b c, _, rfl, x, CR, dx, _, _, rfl, hx, C.cl, C.nN, rwF_n a b c, _, rfl, x, CR, dx, _, _, rfl, hx, C.cl, C.nF, rwF_f a b c, (by show 3 ≤ sizeLine; decide), fun t1 ht1 => ?_⟩
      have e1 := Same.upd (o := .tup [.ref a, .ref b, .ref c]) ht1
      have hy1 := e1 _ _ hy
      refine ⟨_, rfl, _, rfl, y, CR, dy, _, _, rfl, hy1, C.cl, C.nK, rwF_k a' b' c', _, rfl, y, CR, dy, _, _, rfl, hy1, C.cl, C.nN, rwF_n a' b' c', _, rfl, y, CR, dy, _, _, rfl, hy1, C.cl, C.nF, rwF_f a' b' c', (by show 3 ≤ sizeLine; decide), fun t2 ht2 => ?_⟩
      have e2 := Same.upd (o := .tup [.ref a', .ref b', .ref c']) ht2
      have e12 := e1.trans e2
      exact ⟨RwDt R, RwDt R', .tup (SqT.of (e2 _ _ upd_same)) (L.mono e12).dps, .tup (SqT.of upd_same) (L'.mono e12).dps, RwDt.shaped hG, RwDt.shaped hG', k _ e12⟩
    · exact ⟨_, rfl, _, _, _, _, false, rfl, .own CR, ty, hk, _, rfl, iteT k⟩
end
end Ps

/-! The laws' own words, prices and rows. -/
namespace Ps
open PySem PySem.Spec PyProof.Rows PySem.W L2 LamX

section
variable {T : List (Addr × Str)} {p q : Addr} {ms : List Int} {H H1 : Hp}
theorem Gp.new {l : Addr} {o : HO} (n : H l = none) : Gp T p q ms H (upd H l o) := .same (Same.upd n)
theorem Gp.free (g : Gp T p q ms H H1) {b : Addr} (h : H1 b = none) : H b = none := g.g.f b h
theorem Gp.put (g : Gp T p q ms H H1) {D : Addr} {xs : List V} {ys : List V} (n : H D = none) (hD : H1 D = some (.lst xs)) : Gp T p q ms H (upd H1 D (.lst ys)) := hr_gp.put g n hD
theorem Gp.putD (g : Gp T p q ms H H1) {D : Addr} {xs : List (Key × V)} {o : HO} (n : H D = none) (hD : H1 D = some (.dK xs)) : Gp T p q ms H (upd H1 D o) := ⟨g.g.putD n hD, fun h0 => by
  obtain ⟨⟨i, h1⟩, h2⟩ := g.pl h0
  obtain ⟨⟨_, g1⟩, g2⟩ := h0
  exact ⟨⟨i, by rw [upd_ne (ne_of_none g1 n)]; exact h1⟩, by rw [upd_ne (ne_of_none g2 n)]; exact h2⟩⟩
theorem Pl.fresh (h : Pl H p q ms) {l : Addr} (n : H l = none) : l ≠ p := by
  obtain ⟨⟨i, h1⟩, _⟩ := h
  exact (ne_of_none h1 n).symm
end
theorem atI_of {xs : List V} {r : Int} {x : V} (h0 : 0 ≤ r) (h : xs[r.toNat]? = some x) : atI xs r = some x := by
  have e : r = ((r.toNat : Nat) : Int) := by omega
  rw [e]
  exact atI_nat h
/-- one of a list -/
def spPick (T : List (Addr × Str)) : Sp := fun vs H Q _ => ∃ (p q : Addr) (ms : List Int) (a : Addr) (xs : List V), vs = [.ref p, .ref a] ∧ Pl H p q ms ∧ H a = some (.lst xs) ∧ a ≠ p ∧ xs ≠ [] ∧ ∀ x H', x ∈ xs → Gp T p q ms H H' → Q x H'
def menu1 : List Str := ["a", "b", "c", "d", "e"]
def menu2 : List Str := ["few", "many", "odd", "x", "general"]
def menu3 : List Str := ["zz", "own", "abcdefgh", "b", "each"]
/-- words of a menu -/
structure WsG (ws : List Str) : Prop where
  l1 : 1 ≤ ws.length
  l6 : ws.length ≤ 6
  nd : ws.Nodup
  w : ∀ z ∈ ws, isW z = true
def wsB (ws : List Str) : Bool := decide (1 ≤ ws.length) && (decide (ws.length ≤ 6) && (decide ws.Nodup && ws.all isW))
theorem wsB_ok {ws : List Str} (h : wsB ws = true) : WsG ws := by
  unfold wsB at h
  simp only [Bool.and_eq_true, decide_eq_true_eq, List.all_eq_true] at h
  exact ⟨h.1, h.2.1, h.2.2.1, h.2.2.2⟩
theorem menus_ok : ∀ m ∈ [menu1, menu2, menu3], ∀ a : Fin 5, ∀ n : Fin 5, wsB ((m.drop a.val ++ m.take a.val).take (n.val + 1)) = true := by decide +kernel
def menuN (i : Nat) : List Str := ([menu1, menu2, menu3][i]?).getD []
def cutW (i a n : Nat) : List Str := (((menuN i).drop a ++ (menuN i).take a)).take n
theorem cut_ok : ∀ i : Fin 3, ∀ a : Fin 5, ∀ n : Fin 5, cutV (cutV ((menuN i.val).map V.str) (some (a.val : Nat)) none ++ cutV ((menuN i.val).map V.str) none (some (a.val : Nat))) none (some ((n.val + 1 : Nat) : Int)) = (cutW i.val a.val (n.val + 1)).map V.str ∧ wsB (cutW i.val a.val (n.val + 1)) = true := by decide +kernel
theorem cut_len : ∀ i : Fin 3, ∀ a : Fin 5, (cutV ((menuN i.val).map V.str) (some (a.val : Nat)) none).length + (cutV ((menuN i.val).map V.str) none (some (a.val : Nat))).length ≤ 10 := by decide +kernel
def spWords (T : List (Addr × Str)) : Sp := fun vs H Q _ => ∃ (p q : Addr) (ms : List Int) (n : Int), vs = [.ref p, .int n] ∧ Pl H p q ms ∧ 1 ≤ n ∧ n ≤ 5 ∧ ∀ (ws : List Str) l H', WsG ws → Gp T p q ms H H' → H l = none → H' l = some (.lst (ws.map V.str)) → Q (.ref l) H'
/-- prices, drawn -/
structure PrD where
  make : Int
  gen : Int
  ks : List (Str × Int × Int)
structure PrG (P : PrD) : Prop where
  w : WsG (P.ks.map (·.1))
  m : 0 ≤ P.make ∧ P.make ≤ 12
  g : 0 ≤ P.gen ∧ P.gen ≤ 120
  k : ∀ x ∈ P.ks, (0 < x.2.1 ∧ x.2.1 ≤ 60) ∧ (0 < x.2.2 ∧ x.2.2 ≤ 600)
/-- the dict of kinds -/
def KiAt (H : Hp) (kvs : List (Key × V)) (ks : List (Str × Int × Int)) : Prop := kvs.length = ks.length ∧ ∀ (i : Nat) (kv : Key × V) (x : Str × Int × Int), kvs[i]? = some kv → ks[i]? = some x → kv.1 = .inr x.1 ∧ ∃ t, kv.2 = .ref t ∧ H t = some (.tup [.int x.2.1, .int x.2.2])
def PrAt (H : Hp) (v : V) (P : PrD) : Prop := ∃ d k kvs, v = .ref d ∧ H d = some (.dK [(.inr "make", .int P.make), (.inr "general", .int P.gen), (.inr "kinds", .ref k)]) ∧ H k = some (.dK kvs) ∧ KiAt H kvs P.ks
def spPrices (K : Frag) (T : List (Addr × Str)) : Sp := fun vs H Q _ => ∃ (p q : Addr) (ms : List Int) (a : Addr) (ws : List Str), vs = [.ref p, .ref a] ∧ Pl H p q ms ∧ H a = some (.lst (ws.map V.str)) ∧ a ≠ p ∧ WsG ws ∧ ∀ P v H', PrG P → P.ks.map (·.1) = ws → Gp T p q ms H H' → PrAt H' v P → Q v H'
theorem KiAt.keys {H : Hp} {kvs : List (Key × V)} {ks : List (Str × Int × Int)} (h : KiAt H kvs ks) : kvs.map (·.1) = ks.map fun x => (.inr x.1 : Key) := by
  apply List.ext_getElem?
  intro i
  rw [List.getElem?_map, List.getElem?_map]
  cases h1 : kvs[i]? with
  | none =>
    have := List.getElem?_eq_none_iff.mp h1
    have h2 : ks[i]? = none := List.getElem?_eq_none_iff.mpr (by rw [← h.1]; exact this)
    rw [h2]
    rfl
  | some kv =>
    have hi := (List.getElem?_eq_some_iff.mp h1).1
    have hi2 : i < ks.length := by rw [← h.1]; exact hi
    rw [List.getElem?_eq_getElem hi2]
    exact congrArg some (h.2 i kv ks[i] h1 (List.getElem?_eq_getElem hi2)).1
/-- a written list of ints -/
def litA : List Int → TA
  | [] => tNil
  | i :: r => tCons (tC (.int i)) (litA r)
theorem litA_ok : ∀ (L : List Int) {σ : L2.St} {H : Hp} {Q : List V → Hp → Prop}, Q (L.map V.int) H → litA L σ H Q
  | [], _, _, _, h => h
  | i :: r, _, _, _, h => litA_ok r h
theorem lit_draw {K : Frag} {T : List (Addr × Str)} {p q : Addr} {ms : List Int} {σ : L2.St} {H : Hp} {Q : VK} {E : XK} (L : List Int) {n : Int} (hn : n = L.length) (hL : L.length ≤ 1000) (h0 : 0 < n) (hσ : σ[0]? = some (some (.ref p))) (hP : Pl H p q ms)
    (k : ∀ i H', i ∈ L → Gp T p q ms H H' → Q (.int i) H') : tOp (rIxL K) (tLst (litA L)) (tCall (spDr T) [] E (tCons (tVar 0) (tCons (tC (.int n)) tNil))) σ H Q := by
  refine litA_ok L (Q := fun vs H1 => vs.length ≤ sizeLine ∧ ∀ l, H1 l = none → _) ⟨by rw [List.length_map]; exact Nat.le_of_lt (small1000' (by omega)), fun l hl => ?_⟩
  have g1 : Gp T p q ms H (upd H l (.lst (L.map V.int))) := .new hl
  refine ⟨_, hσ, p, q, ms, n, rfl, g1.pl hP, h0, fun r H2 r0 r1 g2 => ?_⟩
  have hr : r.toNat < L.length := by omega
  refine ⟨l, _, _, .int L[r.toNat], rfl, rfl, SqL.of (g2.at upd_same (hP.fresh hl)), atI_of r0 (by rw [List.getElem?_map, List.getElem?_eq_getElem hr]; rfl), k _ _ (List.getElem_mem hr) (g1.trans g2)⟩
section
variable {Z : Cz} {f : Addr} {fd : FuncData} {T0 : List (Addr × Str)}
theorem ok_pick (F : Fun Z.K "_law_pick" "_law_pick" s_lw_pick f fd) (T : DrT Z) (c_lw_draw : Cal Z CX0 1 "_law_draw" ["_law_pool_here", "_law_many"] [] (spDr T0)) : Z.ok CX0 2 f fd ["_law_pool_here", "_law_some"] (spPick T0) := by
  refine F.ok sc_lw_pick (fun vs H Q E h => ?_) (fun cdv A outer s H vs Q E hr h => ?_)
  · obtain ⟨p, q, ms, a, xs, rfl, _⟩ := h
    rfl
  · obtain ⟨p, q, ms, a, xs, rfl, hP, ha, hap, hne, k⟩ := h
    refine ⟨_, (pss_one (ps_ret (pe_ix ix_list (pv 1) (pe_cal c_lw_draw (hr.mono (by decide)) (by rfl) pass0 (pa_cons (pv 0) (pa_cons (pe_callB call_len_seq (by rfl) T.len PySem.boot_len (pa_cons (pv 1) pa_nil)) pa_nil))) (fun _ _ => rfl)))), ?_⟩
    have hl : 0 < xs.length := List.length_pos_iff.mpr hne
    refine ⟨_, rfl, _, rfl, _, rfl, a, _, rfl, .inl (SqL.of ha), p, q, ms, _, rfl, hP, by omega, fun r H1 h0 h1 g1 => ?_⟩
    have hr : r.toNat < xs.length := by omega
    refine ⟨a, _, _, xs[r.toNat], rfl, rfl, SqL.of (g1.at ha hap), ?_, k _ _ (List.getElem_mem hr) g1⟩
    exact atI_of h0 (List.getElem?_eq_getElem hr)
theorem ok_lsorted (F : Fun Z.K "_law_sorted" "_law_sorted" s_lw_sorted f fd) (T : RwB Z) (M : Mkr Z T0 fd.code "_law_sorted.<locals>.<lambda>") : Z.ok CX0 2 f fd ["_law_some"] (spAsc Z.K T0) := by
  refine Fun.okC F sc_lw_sorted (fun vs H Q E h => ?_) (fun A outer s H vs Q E hr h => ?_)
  · obtain ⟨a, ys, rfl, _⟩ := h
    rfl
  · obtain ⟨a, ys, rfl, hT, hi, hk, k⟩ := h
    refine ⟨_, pss_one (ps_ret (pe_callBK (call_sortedStr (k := kTx) rfl T.str (hr.mono (by decide))) (by rfl) T.sorted (by decide +kernel) (pa_cons (pv 0) pa_nil) (pk_cons (pe_lamK (Z := Z) (T := T0) M (strL_by (x := "_law_one") rfl rfl rfl (by decide) (fun _ _ _ _ _ _ => rfl) rfl rfl rfl (by decide +kernel))) pk_nil))), ?_⟩
    refine ⟨_, rfl, hT, fun l H1 g1 t1 kl => ⟨a, l, ys, rfl, rfl, kl, ?_, hk, fun p hp => k p _ (g1.trans (.new hp)) (g1.f p hp) upd_same⟩⟩
    rcases hi with hi | hi | ⟨kvs, hd, e⟩
    · exact .inl (g1.seq hi)
    · exact .inr (.inl (g1.seqT hi))
    · exact .inr (.inr ⟨kvs, g1.rdK hd, e⟩)
theorem ok_words (F : Fun Z.K "_law_words" "_law_words" s_lw_words f fd) (c_lw_draw : Cal Z CX0 1 "_law_draw" ["_law_pool_here", "_law_many"] [] (spDr T0)) : Z.ok CX0 2 f fd ["_law_pool_here", "_law_many"] (spWords T0) := by
  refine F.ok sc_lw_words (fun vs H Q E h => ?_) (fun cdv A outer s H vs Q E hr h => ?_)
  · obtain ⟨p, q, ms, n, rfl, _⟩ := h
    rfl
  · obtain ⟨p, q, ms, n, rfl, hP, h0, h1, k⟩ := h
    refine ⟨_, (pss_cons (ps_set (i := 2) sc_lw_words.nd rfl (Or.inl rfl) (pe_lst (pa_cons (pe_lst (pa_cons pe_str (pa_cons pe_str (pa_cons pe_str (pa_cons pe_str (pa_cons pe_str pa_nil)))))) (pa_cons (pe_lst (pa_cons pe_str (pa_cons pe_str (pa_cons pe_str (pa_cons pe_str (pa_cons pe_str pa_nil)))))) (pa_cons (pe_lst (pa_cons pe_str (pa_cons pe_str (pa_cons pe_str (pa_cons pe_str (pa_cons pe_str pa_nil)))))) pa_nil)))))
      (pss_cons (ps_par (i := 3) (j := 4) (by rfl) sc_lw_words.nd rfl rfl (by decide) rfl rfl (pa_cons (pe_ix ix_list (pv 2) (pe_cal c_lw_draw (hr.mono (by decide)) (by rfl) pass0 (pa_cons (pv 0) (pa_cons pe_int pa_nil))) (fun _ _ => rfl)) (pa_cons (pe_cal c_lw_draw (hr.mono (by decide)) (by rfl) pass0 (pa_cons (pv 0) (pa_cons pe_int pa_nil))) pa_nil)) (by rfl))
      (pss_one (ps_ret (pe_slice sl_list (pe_op op_cat (pe_slice sl_list (pv 3) (po_some (pv 4)) po_none) (pe_slice sl_list (pv 3) po_none (po_some (pv 4)))) po_none (po_some (pv 1))))))), ?_⟩
    refine ⟨by decide, fun l1 hl1 => ?_⟩
    refine ⟨by decide, fun l2 hl2 => ?_⟩
    refine ⟨by decide, fun l3 hl3 => ?_⟩
    refine ⟨(by show 3 ≤ sizeLine; decide), fun lm hlm => ?_⟩
    replace hl2 : (upd H l1 (.lst (menu1.map V.str))) l2 = none := hl2
    replace hl3 : (upd (upd H l1 (.lst (menu1.map V.str))) l2 (.lst (menu2.map V.str))) l3 = none := hl3
    replace hlm : (upd (upd (upd H l1 (.lst (menu1.map V.str))) l2 (.lst (menu2.map V.str))) l3 (.lst (menu3.map V.str))) lm = none := hlm
    have u1 := Same.upd (o := .lst (menu1.map V.str)) hl1
    have u2 := Same.upd (o := .lst (menu2.map V.str)) hl2
    have u3 := Same.upd (o := .lst (menu3.map V.str)) hl3
    have u4 := Same.upd (o := .lst [.ref l1, .ref l2, .ref l3]) hlm
    have hm1 := u4 _ _ (u3 _ _ (u2 _ _ (upd_same (H := H) (a := l1) (o := .lst (menu1.map V.str)))))
    have hm2 := u4 _ _ (u3 _ _ (upd_same (H := upd H l1 (.lst (menu1.map V.str))) (a := l2) (o := .lst (menu2.map V.str))))
    have hm3 := u4 _ _ (upd_same (H := upd (upd H l1 (.lst (menu1.map V.str))) l2 (.lst (menu2.map V.str))) (a := l3) (o := .lst (menu3.map V.str)))
    have hmm : (upd (upd (upd (upd H l1 (.lst (menu1.map V.str))) l2 (.lst (menu2.map V.str))) l3 (.lst (menu3.map V.str))) lm (.lst [.ref l1, .ref l2, .ref l3])) lm = some (.lst [.ref l1, .ref l2, .ref l3]) := upd_same
    have e4 := u1.trans (u2.trans (u3.trans u4))
    show tSeq _ _ _ [some (.ref p), some (.int n), some (.ref lm), none, none] (upd (upd (upd (upd H l1 (.lst (menu1.map V.str))) l2 (.lst (menu2.map V.str))) l3 (.lst (menu3.map V.str))) lm (.lst [.ref l1, .ref l2, .ref l3]))
    generalize (upd (upd (upd (upd H l1 (.lst (menu1.map V.str))) l2 (.lst (menu2.map V.str))) l3 (.lst (menu3.map V.str))) lm (.lst [.ref l1, .ref l2, .ref l3])) = H4 at hm1 hm2 hm3 hmm e4 ⊢
    have g4 : Gp T0 p q ms H H4 := .same e4
    have hP4 := g4.pl hP
    have fresh : ∀ {l : Addr} {xs : List V}, H l = none → H4 l = some (.lst xs) → l ≠ p := fun hn _ => hP.fresh hn
    have n1 : l1 ≠ p := hP.fresh hl1
    have n2 : l2 ≠ p := hP.fresh (u1.free hl2)
    have n3 : l3 ≠ p := hP.fresh (u1.free (u2.free hl3))
    have nm : lm ≠ p := hP.fresh (u1.free (u2.free (u3.free hlm)))
    refine ⟨_, rfl, _, rfl, p, q, ms, 3, rfl, hP4, by decide, fun i H5 i0 i1 g5 => ?_⟩
    have hmm5 := g5.at hmm nm
    obtain ⟨m, hmi, hm5, hmp⟩ : ∃ m, ([.ref l1, .ref l2, .ref l3] : List V)[i.toNat]? = some (.ref m) ∧ H5 m = some (.lst ((menuN i.toNat).map V.str)) ∧ m ≠ p := by
      have hi : i = 0 ∨ i = 1 ∨ i = 2 := by omega
      rcases hi with rfl | rfl | rfl
      · exact ⟨l1, rfl, g5.at hm1 n1, n1⟩
      · exact ⟨l2, rfl, g5.at hm2 n2, n2⟩
      · exact ⟨l3, rfl, g5.at hm3 n3, n3⟩
    refine ⟨lm, _, _, _, rfl, rfl, SqL.of hmm5, atI_of i0 hmi, ?_⟩
    refine ⟨_, rfl, p, q, ms, 5, rfl, g5.pl hP4, by decide, fun a H6 a0 a1 g6 => ?_⟩
    have hm6 := g6.at hm5 hmp
    refine ⟨_, _, rfl, ?_⟩
    obtain ⟨ai, rfl⟩ : ∃ ai : Fin 5, a = ((ai.val : Nat) : Int) := ⟨⟨a.toNat, by omega⟩, by show a = ((a.toNat : Nat) : Int); omega⟩
    obtain ⟨ii, hii⟩ : ∃ ii : Fin 3, i.toNat = ii.val := ⟨⟨i.toNat, by omega⟩, rfl⟩
    obtain ⟨ni, hni⟩ : ∃ ni : Fin 5, n = ((ni.val + 1 : Nat) : Int) := ⟨⟨(n - 1).toNat, by omega⟩, by show n = (((n - 1).toNat + 1 : Nat) : Int); omega⟩
    rw [hii] at hm6
    refine ⟨_, rfl, _, rfl, _, rfl, m, _, rfl, SqL.of hm6, fun c1 hc1 => ?_⟩
    have v1 := Same.upd (o := .lst (cutV ((menuN ii.val).map V.str) (some ((ai.val : Nat) : Int)) none)) hc1
    refine ⟨_, rfl, _, rfl, _, rfl, m, _, rfl, SqL.of (v1 _ _ hm6), fun c2 hc2 => ?_⟩
    have v2 := Same.upd (o := .lst (cutV ((menuN ii.val).map V.str) none (some ((ai.val : Nat) : Int)))) hc2
    refine ⟨c1, c2, _, _, rfl, rfl, v2 _ _ upd_same, upd_same, Nat.le_trans (cut_len ii ai) (by decide), fun c3 hc3 => ?_⟩
    have v3 := Same.upd (o := .lst (cutV ((menuN ii.val).map V.str) (some ((ai.val : Nat) : Int)) none ++ cutV ((menuN ii.val).map V.str) none (some ((ai.val : Nat) : Int)))) hc3
    refine ⟨_, rfl, n, rfl, c3, _, rfl, SqL.of upd_same, fun c4 hc4 => ?_⟩
    obtain ⟨k1, k2⟩ := cut_ok ii ai ni
    have v4 := Same.upd (o := .lst (cutV (cutV ((menuN ii.val).map V.str) (some ((ai.val : Nat) : Int)) none ++ cutV ((menuN ii.val).map V.str) none (some ((ai.val : Nat) : Int))) none (some n))) hc4
    refine k (cutW ii.val ai.val (ni.val + 1)) c4 _ (wsB_ok k2) (g4.trans (g5.trans (g6.trans (.same (v1.trans (v2.trans (v3.trans v4))))))) ?_ ?_
    · exact g4.free (g5.free (g6.free (v1.free (v2.free (v3.free hc4)))))
    · rw [upd_same, hni, k1]
theorem KiAt.gp {T : List (Addr × Str)} {p q : Addr} {ms : List Int} {H H1 : Hp} {kvs : List (Key × V)} {ks : List (Str × Int × Int)} (g : Gp T p q ms H H1) (hP : Pl H p q ms) (h : KiAt H kvs ks) : KiAt H1 kvs ks :=
  ⟨h.1, fun i kv x h1 h2 => by
    obtain ⟨e, t, e2, ht⟩ := h.2 i kv x h1 h2
    refine ⟨e, t, e2, g.at ht fun z => ?_⟩
    obtain ⟨⟨j, hp⟩, _⟩ := hP
    rw [z, hp] at ht
    cases ht⟩
theorem KiAt.upd {H : Hp} {D : Addr} {u : List (Key × V)} {o : HO} {kvs : List (Key × V)} {ks : List (Str × Int × Int)} (hD : H D = some (.dK u)) (h : KiAt H kvs ks) : KiAt (L2.upd H D o) kvs ks :=
  ⟨h.1, fun i kv x h1 h2 => by
    obtain ⟨e, t, e2, ht⟩ := h.2 i kv x h1 h2
    refine ⟨e, t, e2, ?_⟩
    rw [upd_ne fun z => by rw [z, hD] at ht; cases ht]
    exact ht⟩
theorem KiAt.snoc {H : Hp} {kvs : List (Key × V)} {ks : List (Str × Int × Int)} {w : Str} {a b : Int} {t : Addr} (h : KiAt H kvs ks) (ht : H t = some (.tup [.int a, .int b])) : KiAt H (kvs ++ [(.inr w, .ref t)]) (ks ++ [(w, a, b)]) := by
  refine ⟨by simp [h.1], fun i kv x h1 h2 => ?_⟩
  by_cases hi : i < kvs.length
  · rw [List.getElem?_append_left hi] at h1
    rw [List.getElem?_append_left (by rw [← h.1]; exact hi)] at h2
    exact h.2 i kv x h1 h2
  · rw [List.getElem?_append_right (by omega)] at h1
    rw [List.getElem?_append_right (by rw [← h.1]; omega), ← h.1] at h2
    cases hj : i - kvs.length with
    | zero =>
      rw [hj] at h1 h2
      cases h1
      cases h2
      exact ⟨rfl, t, rfl, ht⟩
    | succ j =>
      rw [hj] at h1
      cases h1
theorem KiAt.no {H : Hp} {kvs : List (Key × V)} {ks : List (Str × Int × Int)} {w : Str} (h : KiAt H kvs ks) (hw : w ∉ ks.map (·.1)) : valV kvs (.inr w) = none := by
  unfold valV
  rw [List.find?_eq_none.mpr fun kv hm => ?_]
  · rfl
  · obtain ⟨i, hi⟩ := List.getElem?_of_mem hm
    have hl := (List.getElem?_eq_some_iff.mp hi).1
    have hl2 : i < ks.length := by rw [← h.1]; exact hl
    have e := (h.2 i kv ks[i] hi (List.getElem?_eq_getElem hl2)).1
    intro z
    have z' : kv.1 = .inr w := by simpa using z
    rw [e] at z'
    exact hw (by rw [← Sum.inr.inj z']; exact List.mem_map_of_mem (List.getElem_mem hl2))
theorem ok_prices (F : Fun Z.K "_law_prices" "_law_prices" s_lw_prices f fd) (c_lw_draw : Cal Z CX0 1 "_law_draw" ["_law_pool_here", "_law_many"] [] (spDr T0)) : Z.ok CX0 2 f fd ["_law_pool_here", "_law_words_here"] (spPrices Z.K T0) := by
  refine F.ok sc_lw_prices (fun vs H Q E h => ?_) (fun cdv A outer s H vs Q E hr h => ?_)
  · obtain ⟨p, q, ms, a, ws, rfl, _⟩ := h
    rfl
  · obtain ⟨p, q, ms, a, ws, rfl, hP, ha, hap, hW, k⟩ := h
    refine ⟨_, (pss_cons (ps_set (i := 2) sc_lw_prices.nd rfl (Or.inl rfl) pe_dnewK)
      (pss_cons (ps_for PassesOwn.never rfl (pi_list (pv 1)) (pg_name (i := 3) sc_lw_prices.nd rfl (Or.inl rfl))
      (pss_cons (ps_set (i := 4) sc_lw_prices.nd rfl (Or.inl rfl) (pe_ix ix_list (pe_lst (pa_cons pe_int (pa_cons pe_int (pa_cons pe_int (pa_cons pe_int (pa_cons pe_int (pa_cons pe_int (pa_cons pe_int pa_nil)))))))) (pe_cal c_lw_draw (hr.mono (by decide)) (by rfl) pass0 (pa_cons (pv 0) (pa_cons pe_int pa_nil))) (fun _ _ => rfl)))
        (pss_one (ps_dput (hu_of hr) (pv 2) (pv 3) (pe_tup (pa_cons (pv 4) (pa_cons (pe_ix ix_list (pe_lst (pa_cons pe_int (pa_cons pe_int (pa_cons pe_int (pa_cons pe_int (pa_cons pe_int (pa_cons pe_int (pa_cons pe_int pa_nil)))))))) (pe_cal c_lw_draw (hr.mono (by decide)) (by rfl) pass0 (pa_cons (pv 0) (pa_cons pe_int pa_nil))) (fun _ _ => rfl)) pa_nil))) rfl))))
      (pss_cons (ps_par (i := 5) (j := 6) (by rfl) sc_lw_prices.nd rfl rfl (by decide) rfl rfl (pa_cons (pe_ix ix_list (pe_lst (pa_cons pe_int (pa_cons pe_int (pa_cons pe_int (pa_cons pe_int (pa_cons pe_int (pa_cons pe_int pa_nil))))))) (pe_cal c_lw_draw (hr.mono (by decide)) (by rfl) pass0 (pa_cons (pv 0) (pa_cons pe_int pa_nil))) (fun _ _ => rfl)) (pa_cons (pe_ix ix_list (pe_lst (pa_cons pe_int (pa_cons pe_int (pa_cons pe_int (pa_cons pe_int (pa_cons pe_int (pa_cons pe_int pa_nil))))))) (pe_cal c_lw_draw (hr.mono (by decide)) (by rfl) pass0 (pa_cons (pv 0) (pa_cons pe_int pa_nil))) (fun _ _ => rfl)) pa_nil)) (by rfl))
      (pss_one (ps_ret (pe_disp (pps_cons pe_str (pv 5) (pps_cons pe_str (pv 6) (pps_cons pe_str (pv 2) pps_nil))) (by rfl) (by rfl) (fun z => by cases z) (by decide))))))), ?_⟩
    intro D hD
    have g0 : Gp T0 p q ms H (upd H D (.dK [])) := .new hD
    have hDp : D ≠ p := hP.fresh hD
    have hD0 : (upd H D (.dK [])) D = some (.dK []) := upd_same
    show tSeq _ _ _ [some (.ref p), some (.ref a), some (.ref D), none, none, none, none] (upd H D (.dK []))
    generalize (upd H D (.dK [])) = H0 at g0 hD0 ⊢
    refine ⟨_, rfl, a, rfl, ⟨_, SqL.of (g0.at ha hap)⟩, ?_⟩
    refine for_list (K := Z.K) (a := a) (xs := ws.map V.str) (fun i σ H' => Gp T0 p q ms H H' ∧ ∃ o1 o2 kvs ks, σ = [some (.ref p), some (.ref a), some (.ref D), o1, o2, none, none] ∧ H' D = some (.dK kvs) ∧ KiAt H' kvs ks ∧ ks.map (·.1) = ws.take i ∧ ∀ x ∈ ks, (0 < x.2.1 ∧ x.2.1 ≤ 60) ∧ (0 < x.2.2 ∧ x.2.2 ≤ 600))
      ⟨g0, none, none, [], [], rfl, hD0, ⟨rfl, fun i kv x h => by cases h⟩, rfl, fun x hx => by cases hx⟩ (fun i σ H' _ ⟨g, _⟩ => SqL.of (g.at ha hap)) ?_ ?_
    · rintro i y σ H1 hy ⟨g1, o1, o2, kvs, ks, rfl, hD1, hK1, hks, hpr⟩
      rw [List.getElem?_map] at hy
      cases hw : ws[i]? with
      | none => rw [hw] at hy; cases hy
      | some w =>
        rw [hw] at hy
        cases hy
        have hi := (List.getElem?_eq_some_iff.mp hw).1
        have hP1 := g1.pl hP
        refine lit_draw [6, 3, 12, 6, 18, 60, 4] rfl (by decide) (by decide) rfl hP1 fun own H2 ho g2 => ?_
        have hP2 := g2.pl hP1
        refine ⟨_, rfl, ?_⟩
        refine lit_draw [6, 12, 3, 24, 60, 600, 2] rfl (by decide) (by decide) rfl hP2 fun gen H3 hg g3 => ?_
        have g13 := g2.trans g3
        have hD3 := g13.at hD1 hDp
        refine ⟨(by show 2 ≤ sizeLine; decide), fun t ht => ?_⟩
        have e4 := Same.upd (o := .tup [.int own, .int gen]) ht
        have hno : w ∉ ks.map (·.1) := fun hm => by
          rw [hks] at hm
          have hnd : (ws.take (i + 1)).Nodup := List.Sublist.nodup (List.take_sublist _ _) hW.nd
          rw [List.take_succ, hw] at hnd
          exact (List.nodup_append.mp hnd).2.2 _ hm _ (by simp) rfl
        have hK3 := hK1.gp g13 hP1
        have hkl : kvs.length ≤ 10 := by
          have h1 := hK1.1
          have h2 := congrArg List.length hks
          rw [List.length_map, List.length_take] at h2
          have := hW.l6
          omega
        have hD4 := e4 _ _ hD3
        refine ⟨_, rfl, _, rfl, D, _, rfl, .k (k := .inr w) hD4 (small1000' (by omega)), ?_⟩
        have hK4 : KiAt (upd H3 t (.tup [.int own, .int gen])) kvs ks := ⟨hK3.1, fun i kv x h1 h2 => by
          obtain ⟨q1, t', q2, q3⟩ := hK3.2 i kv x h1 h2
          exact ⟨q1, t', q2, e4 _ _ q3⟩⟩
        have g4 := g1.trans (g13.trans (.same e4))
        refine ⟨g4.putD hD hD4, _, _, kvs ++ [(.inr w, .ref t)], ks ++ [(w, own, gen)], rfl, ?_, (hK4.snoc upd_same).upd hD4, ?_, fun x hx => ?_⟩
        · rw [upd_same, putK_new _ (hK3.no hno)]
        · rw [List.map_append, hks, List.take_succ, hw]
          rfl
        · rcases List.mem_append.mp hx with hx | hx
          · exact hpr x hx
          · rw [List.mem_singleton.mp hx]
            simp only [List.mem_cons, List.not_mem_nil, or_false] at ho hg
            constructor <;> constructor <;> simp only <;> omega
    · rintro σ H1 ⟨g1, o1, o2, kvs, ks, rfl, hD1, hK1, hks, hpr⟩
      rw [List.length_map, List.take_length] at hks
      have hP1 := g1.pl hP
      refine lit_draw [6, 0, 12, 3, 2, 6] rfl (by decide) (by decide) rfl hP1 fun mk H2 hm g2 => ?_
      have hP2 := g2.pl hP1
      refine lit_draw [6, 0, 18, 30, 1, 120] rfl (by decide) (by decide) rfl hP2 fun gm H3 hg g3 => ?_
      refine ⟨_, _, rfl, ?_⟩
      intro D2 hD2
      refine ⟨_, rfl, _, rfl, _, rfl, upd_same, [(.inr "make", .int mk), (.inr "general", .int gm), (.inr "kinds", .ref D)], rfl, (by show 3 ≤ 15; decide), ?_⟩
      have g13 := g2.trans g3
      have hK3 := hK1.gp g13 hP1
      have hD3 := g13.at hD1 hDp
      have e4 : Same H3 (upd (upd H3 D2 (.dK [])) D2 (.dK (mergeK [] [(.inr "make", .int mk), (.inr "general", .int gm), (.inr "kinds", .ref D)]))) := by
        rw [upd_upd]
        exact Same.upd hD2
      refine k ⟨mk, gm, ks⟩ (.ref D2) _ ⟨by rw [hks]; exact hW, ?_, ?_, hpr⟩ hks (g1.trans (g13.trans (.same e4))) ⟨D2, D, kvs, rfl, upd_same, e4 _ _ hD3, hK3.1, fun i kv x h1 h2 => ?_⟩
      · simp only [List.mem_cons, List.not_mem_nil, or_false] at hm
        constructor <;> simp only <;> omega
      · simp only [List.mem_cons, List.not_mem_nil, or_false] at hg
        constructor <;> simp only <;> omega
      · obtain ⟨q1, t', q2, q3⟩ := hK3.2 i kv x h1 h2
        exact ⟨q1, t', q2, e4 _ _ q3⟩
end
end Ps

/-! The laws' own rows. -/
namespace Ps
open PySem PySem.Spec PyProof.Rows PySem.W L2 LamX

theorem al_choice {α : Type} {R : V → α → Prop} : ∀ {ys : List V}, (∀ y ∈ ys, ∃ b, R y b) → ∃ bs, Al R ys bs
  | [], _ => ⟨[], Al.nil⟩
  | y :: ys, h => by
    obtain ⟨b, hb⟩ := h y (List.mem_cons_self ..)
    obtain ⟨bs, hbs⟩ := al_choice (ys := ys) fun z hz => h z (List.mem_cons_of_mem _ hz)
    exact ⟨b :: bs, Al.cons hb hbs⟩
section
variable {G : Hp → Hp → Prop} {ok : Addr → Prop} {n : Nat} {tt : TT} {i : Nat} {σ : L2.St} {H1 : Hp} {D : Addr} {Qd : Hp → Prop}
/-- those of a range that a test lets through -/
theorem lcT (hG : HR G ok) (hi : i < σ.length) (hz : n ≤ 100000) (hD : H1 D = none) (hok : ok D)
    (step : ∀ (j : Nat) H2 (Qb : Bool → Hp → Prop), j < n → G H1 H2 → (∀ b H3, G H2 H3 → Qb b H3) → tt ((wipe σ [i]).set i (some (.int j))) H2 Qb)
    (fin : ∀ H2 (ns : List Int), G H1 H2 → H2 D = some (.lst (ns.map V.int)) → ns.Pairwise (· < ·) → (∀ m ∈ ns, 0 ≤ m ∧ m < n) → ns.length ≤ n → Qd H2) :
    ∃ W : Nat → Nat → Hp → Prop, (∃ m, W 0 m (upd H1 D (.lst []))) ∧ ∀ k m H, W k m H →
      ((L2.Itr 0 n).stop k H ∧ Qd H) ∨ ((L2.Itr 0 n).go k H ∧ ∃ Nx : Hp → Prop, (∀ H', Nx H' → ∃ m', m' < m ∧ W (k + 1) m' H') ∧ ∀ x H', (L2.Itr 0 n).yld k H x H' → gName i x (wipe σ [i]) H' fun σ2 H2 => wipe σ2 [i] = wipe σ [i] ∧ tt σ2 H2 fun b H3 =>
        if b = true then tVar i σ2 H3 fun y H4 => ∃ acc, H4 D = some (.lst acc) ∧ acc.length < sizeLine ∧ Nx (upd H4 D (.lst (acc ++ [y]))) else Nx H3) := by
  refine lc_it (walk_range (lo := 0) (n := n)) (fun j H' => G H1 H' ∧ ∃ ns : List Int, H' D = some (.lst (ns.map V.int)) ∧ ns.Pairwise (· < ·) ∧ (∀ m ∈ ns, 0 ≤ m ∧ m < j) ∧ ns.length ≤ j) ⟨hG.new hD, [], upd_same, .nil, (fun m hm => by cases hm), Nat.le_refl _⟩ (fun _ _ _ _ => trivial) ?_ (fun H' h => ?_)
  · rintro j x H2 H' hj ⟨g, ns, hl, hp, hm, hln⟩ ⟨rfl, rfl⟩
    refine ⟨wipe_one σ i _, ?_⟩
    have ej : (0 : Int) + (j : Nat) = ((j : Nat) : Int) := by omega
    show tt (List.set (wipe σ [i]) i (some (V.int (0 + ((j : Nat) : Int))))) H' (fun b H3 => if b = true then tVar i (List.set (wipe σ [i]) i (some (V.int (0 + ((j : Nat) : Int))))) H3 _ else _)
    rw [ej]
    refine step j H' _ hj g fun b H3 g3 => ?_
    have hl3 := hG.lst g3 hok hl
    cases b with
    | false => exact ⟨hG.trans g g3, ns, hl3, hp, fun m h => by have := hm m h; omega, by omega⟩
    | true =>
      refine ⟨.int j, ?_, ns.map V.int, hl3, ?_, hG.put (hG.trans g g3) hD hl3, ns ++ [(j : Int)], ?_, ?_, fun m h => ?_, by simp; omega⟩
      · have hs : i < (wipe σ [i]).length := by rw [wipe_length]; exact hi
        rw [List.getElem?_set_self hs]
      · rw [List.length_map]
        exact small1000' (by omega)
      · rw [upd_same, List.map_append]
        rfl
      · rw [List.pairwise_append]
        refine ⟨hp, by simp, fun a ha b hb => ?_⟩
        rw [List.mem_singleton.mp hb]
        exact (hm a ha).2
      · rcases List.mem_append.mp h with h | h
        · have := hm m h
          omega
        · rw [List.mem_singleton.mp h]
          omega
  · obtain ⟨g, ns, hl, hp, hm, hln⟩ := h
    exact fin H' ns g hl hp hm hln
end
/-- the law's rows -/
def LRow (H : Hp) (v : V) (R : RwD) : Prop := ∃ d a b c, v = .ref d ∧ H d = some (.dK [(.inr "kinds", .ref a), (.inr "nexts", .ref b), (.inr "firsts", .ref c)]) ∧ RwL H a b c R
/-- rows whose lists ascend -/
structure RwU (R : RwD) : Prop where
  g : RwG R
  nx : ∀ ns ∈ R.nx, ns.Pairwise (· < ·)
  fs : R.fs.Pairwise (· < ·)
  n8 : ∀ ns ∈ R.nx, ns.length ≤ 8
  f8 : R.fs.length ≤ 8
theorem RwU.srt {R : RwD} (u : RwU R) : R.srt = R := by
  unfold RwD.srt
  have e1 : R.nx.map srtI = R.nx := by
    have h : ∀ ns ∈ R.nx, srtI ns = ns := fun ns hn => srtI_of (u.nx ns hn)
    exact (List.map_congr_left h).trans (List.map_id' _)
  rw [e1, srtI_of u.fs]
theorem nodup_of_lt {ns : List Int} (h : ns.Pairwise (· < ·)) : ns.Nodup := h.imp fun z => by omega
def spLRows (K : Frag) (T : List (Addr × Str)) : Sp := fun vs H Q _ => ∃ (p q : Addr) (ms : List Int) (v : V) (P : PrD) (n : Int), vs = [.ref p, v, .int n] ∧ Pl H p q ms ∧ Tabs T H ∧ PrAt H v P ∧ PrG P ∧ 1 ≤ n ∧ n ≤ 8 ∧ ∀ R v H', RwU R → (∀ z ∈ R.ks, z ∈ P.ks.map (·.1)) → (R.ks.length : Int) ≤ n → Gp T p q ms H H' → LRow H' v R → Q v H'
section
variable {Z : Cz} {f : Addr} {fd : FuncData} {T0 : List (Addr × Str)}
theorem ok_lrows (F : Fun Z.K "_law_rows" "_law_rows" s_lw_rows f fd) (T : DrT Z) (c_lw_draw : Cal Z CX0 1 "_law_draw" ["_law_pool_here", "_law_many"] [] (spDr T0)) (c_lw_pick : Cal Z CX0 2 "_law_pick" ["_law_pool_here", "_law_some"] [] (spPick T0))
    (c_lw_sorted : Cal Z CX0 2 "_law_sorted" ["_law_some"] [] (spAsc Z.K T0)) : Z.ok CX0 3 f fd ["_law_pool_here", "_law_prices_here", "_law_most"] (spLRows Z.K T0) := by
  refine F.ok sc_lw_rows (fun vs H Q E h => ?_) (fun cdv A outer s H vs Q E hr h => ?_)
  · obtain ⟨p, q, ms, v, P, n, rfl, _⟩ := h
    rfl
  · obtain ⟨p, q, ms, v, P, n, rfl, hP, hT, hPr, hPG, h1, h8, k⟩ := h
    refine ⟨_, (pss_cons (ps_asg (pe_tup (pa_cons (pe_cal c_lw_sorted (hr.mono (by decide)) (by rfl) pass0 (pa_cons (pe_dget (hu_of hr) (pv 1) pe_str (fun _ _ => rfl)) pa_nil)) (pa_cons (pe_op op_add pe_int (pe_cal c_lw_draw (hr.mono (by decide)) (by rfl) pass0 (pa_cons (pv 0) (pa_cons (pv 2) pa_nil)))) pa_nil))) (pg_tup (by rfl) (pgs_cons (pg_name (i := 3) sc_lw_rows.nd rfl (Or.inr rfl)) (pgs_cons (pg_name (i := 4) sc_lw_rows.nd rfl (Or.inr rfl)) pgs_nil))))
      (pss_cons (ps_setLc (i := 5) (own := [("_law_node", 6)]) (g := gName 6) (tt := tYes) (by rfl) sc_lw_rows.nd rfl rfl (sw_true rfl rfl rfl (by decide +kernel)) (pi_range1 (by rfl) T.range (pa_cons (pv 4) pa_nil)) (blkOk_by (own := [("_law_node", 6)]) (N := ["_law_pool_here", "_law_prices_here", "_law_most", "_law_words_here", "_law_many", "_law_kinds", "_law_node", "_law_nexts", "_law_other", "_law_firsts"]) (sc := defScope s_lw_rows) (by decide +kernel)) (fun _ _ _ _ _ => (pg_name (i := 6) sc_lw_rows.nd rfl (Or.inl rfl))) (fun _ _ _ _ _ => pts_nil) (fun _ _ _ _ _ => (pe_cal c_lw_pick (hr.mono (by decide)) (by rfl) pass0 (pa_cons (pv 0) (pa_cons (pv 3) pa_nil)))))
      (pss_cons (ps_setLc (i := 7) (own := [("_law_other", 8)]) (g := gName 8) (tt := tYes) (by rfl) sc_lw_rows.nd rfl rfl (sw_true rfl rfl rfl (by decide +kernel)) (pi_range1 (by rfl) T.range (pa_cons (pv 4) pa_nil)) (blkOk_by (own := [("_law_other", 8)]) (N := ["_law_pool_here", "_law_prices_here", "_law_most", "_law_words_here", "_law_many", "_law_kinds", "_law_node", "_law_nexts", "_law_other", "_law_firsts"]) (sc := defScope s_lw_rows) (by decide +kernel)) (fun _ _ _ _ _ => (pg_name (i := 8) sc_lw_rows.nd rfl (Or.inl rfl))) (fun _ _ _ _ _ => pts_nil) (fun _ _ _ _ _ => (pe_lc (own := [("_law_node", 6)]) (g := gName 6) (by rfl) sc_lw_rows.nd (pi_range1 (by rfl) T.range (pa_cons (pv 4) pa_nil)) (blkOk_by (own := [("_law_node", 6)]) (N := ["_law_pool_here", "_law_prices_here", "_law_most", "_law_words_here", "_law_many", "_law_kinds", "_law_node", "_law_nexts", "_law_other", "_law_firsts"]) (by kernel_rfl)) (fun _ _ _ _ _ => (pg_name (i := 6) sc_lw_rows.nd rfl (Or.inl rfl))) (fun _ _ _ _ _ => (pts_one (pt_cmpR op_gt (pe_cal c_lw_draw (hr.mono (by decide)) (by rfl) pass0 (pa_cons (pv 0) (pa_cons pe_int pa_nil))) pe_int (nomark _)))) (fun _ _ _ _ _ => (pv 6)))))
      (pss_cons (ps_setLc (i := 9) (own := [("_law_node", 6)]) (g := gName 6) (by rfl) sc_lw_rows.nd rfl rfl (sw_true rfl rfl rfl (by decide +kernel)) (pi_range1 (by rfl) T.range (pa_cons (pv 4) pa_nil)) (blkOk_by (own := [("_law_node", 6)]) (N := ["_law_pool_here", "_law_prices_here", "_law_most", "_law_words_here", "_law_many", "_law_kinds", "_law_node", "_law_nexts", "_law_other", "_law_firsts"]) (sc := defScope s_lw_rows) (by decide +kernel)) (fun _ _ _ _ _ => (pg_name (i := 6) sc_lw_rows.nd rfl (Or.inl rfl))) (fun _ _ _ _ _ => (pts_one (pt_cmpR op_eq (pe_cal c_lw_draw (hr.mono (by decide)) (by rfl) pass0 (pa_cons (pv 0) (pa_cons pe_int pa_nil))) pe_int (nomark _)))) (fun _ _ _ _ _ => (pv 6)))
      (pss_one (ps_ret (pe_disp (pps_cons pe_str (pv 5) (pps_cons pe_str (pv 7) (pps_cons pe_str (pe_ifExp (pt_cmpR (op_neD hr.units) (pv 9) (pe_lst pa_nil) (nomark _)) (pv 9) (pe_lst (pa_cons pe_int pa_nil))) pps_nil))) (by rfl) (by rfl) (fun z => by cases z) (by decide)))))))), ?_⟩
    have notp : ∀ {G : Hp} {x : Addr} {kvs : List (Key × V)}, Pl G p q ms → G x = some (.dK kvs) → x ≠ p := fun hp hx z => by
      obtain ⟨⟨i, h⟩, _⟩ := hp
      rw [z, h] at hx
      cases hx
    obtain ⟨d, kd, kvs, rfl, hd, hkd, hKi⟩ := id hPr
    have hkeys := hKi.keys
    generalize hws : P.ks.map (·.1) = ws at *
    have hW := hPG.w
    rw [hws] at hW
    have hks : (kvs.map fun kv => kV kv.1) = ws.map V.str := by
      have e := congrArg (List.map kV) hkeys
      rw [List.map_map, List.map_map] at e
      rw [← hws, List.map_map]
      exact e
    -- the words, sorted; how many
    refine ⟨_, rfl, d, _, rfl, .inl ⟨_, .inr "kinds", .inl hd, rfl, rfl⟩, kd, ws.map V.str, rfl, hT, .inr (.inr ⟨kvs, .inl hkd, hks.symm⟩), ?_, fun l1 H1 g1 hl1 h11 => ?_⟩
    · rintro y hy
      obtain ⟨z, _, rfl⟩ := List.mem_map.mp hy
      exact .inl rfl
    have gp1 : Gp T0 p q ms H H1 := .of g1
    have hP1 := gp1.pl hP
    refine ⟨_, rfl, _, rfl, p, q, ms, n, rfl, hP1, by omega, fun r H2 r0 r1 g2 => ?_⟩
    have hl1p : l1 ≠ p := hP.fresh hl1
    have h12 := g2.at h11 hl1p
    have hP2 := g2.pl hP1
    refine ⟨_, _, rfl, rfl, (by show 2 ≤ sizeLine; decide), fun tp htp => ?_⟩
    have e3 := Same.upd (o := .tup [.ref l1, .int (1 + r)]) htp
    refine ⟨tp, _, rfl, SqT.of upd_same, rfl, _, _, rfl, _, _, rfl, rfl, ?_⟩
    have gp3 : Gp T0 p q ms H (upd H2 tp (.tup [.ref l1, .int (1 + r)])) := gp1.trans (g2.trans (.same e3))
    have h13 := e3 _ _ h12
    show tSeq _ _ _ [some (.ref p), some (.ref d), some (.int n), some (.ref l1), some (.int (1 + r)), none, none, none, none, none] (upd H2 tp (.tup [.ref l1, .int (1 + r)]))
    generalize (upd H2 tp (.tup [.ref l1, .int (1 + r)])) = H3 at gp3 h13 ⊢
    have hP3 := gp3.pl hP
    obtain ⟨m, hm⟩ : ∃ m : Nat, 1 + r = (m : Int) := ⟨(1 + r).toNat, by omega⟩
    rw [hm]
    have hm1 : 1 ≤ m := by omega
    have hmn : (m : Int) ≤ n := by omega
    have hsl : (srt (ws.map V.str)) ≠ [] := by
      unfold srt
      intro z
      have := congrArg List.length z
      rw [List.length_mergeSort, List.length_map] at this
      have h1' := hW.l1
      rw [this] at h1'
      exact absurd h1' (by decide)
    have hsm : ∀ x ∈ srt (ws.map V.str), ∃ z, x = .str z ∧ z ∈ ws := fun x hx => by
      unfold srt at hx
      obtain ⟨z, hz, rfl⟩ := List.mem_map.mp (List.mem_mergeSort.mp hx)
      exact ⟨z, rfl, hz⟩
    -- the kinds
    refine ⟨_, rfl, (m : Int), rfl, by omega, by omega, fun D hD => ?_⟩
    have hDp : D ≠ p := hP3.fresh hD
    refine lcR (hr_gp (T := T0) (p := p) (q := q) (ms := ms)) (walk_range (lo := 0) (n := (m : Int).toNat)) yfn (bs := List.range (m : Int).toNat) (fun y _ _ => ∃ z, y = V.str z ∧ z ∈ ws) (List.length_range) (by omega) hD hDp (fun _ _ => trivial) ?_ ?_ ?_ ?_
    · exact fun y b H2 H3 h _ => h
    · exact fun y b H2 xs zs h _ => h
    · rintro j x b H4 acc Qe rfl hb g4 hD4 kk
      exact ⟨_, rfl, _, rfl, p, q, ms, l1, _, rfl, g4.pl hP3, g4.at h13 hl1p, hl1p, hsl, fun x H5 hx g5 => kk x H5 g5 (hsm x hx)⟩
    rintro H4 ys g4 hD4 al4
    obtain ⟨ks, hks4, hkw⟩ : ∃ ks : List Str, ys = ks.map V.str ∧ ∀ z ∈ ks, z ∈ ws := by
      have hy : ∀ y ∈ ys, ∃ z, y = V.str z ∧ z ∈ ws := fun y hy => by
        obtain ⟨i, hi⟩ := List.getElem?_of_mem hy
        obtain ⟨b, _, h⟩ := al4.get hi
        exact h
      clear al4 hD4 g4
      induction ys with
      | nil => exact ⟨[], rfl, fun z hz => by cases hz⟩
      | cons y ys ih =>
        obtain ⟨z, rfl, hz⟩ := hy y (List.mem_cons_self ..)
        obtain ⟨ks, rfl, hk⟩ := ih fun w hw => hy w (List.mem_cons_of_mem _ hw)
        refine ⟨z :: ks, rfl, fun w hw => ?_⟩
        rcases List.mem_cons.mp hw with rfl | hw
        · exact hz
        · exact hk w hw
    have hkl : ks.length = m := by
      have := al4.1
      rw [hks4, List.length_map, List.length_range] at this
      omega
    subst hks4
    have hP4 := g4.pl hP3
    -- the nexts
    refine ⟨_, rfl, (m : Int), rfl, by omega, by omega, fun D5 hD5 => ?_⟩
    have hD5p : D5 ≠ p := hP4.fresh hD5
    refine lcR (hr_gp (T := T0) (p := p) (q := q) (ms := ms)) (walk_range (lo := 0) (n := (m : Int).toNat)) yfn (bs := List.range (m : Int).toNat) (fun y _ H' => ∃ (l : Addr) (ns : List Int), y = V.ref l ∧ l ≠ D5 ∧ l ≠ p ∧ H' l = some (.lst (ns.map V.int)) ∧ ns.Pairwise (· < ·) ∧ (∀ i ∈ ns, 0 ≤ i ∧ i < (m : Int)) ∧ ns.length ≤ m) (List.length_range) (by omega) hD5 hD5p (fun _ _ => trivial) ?_ ?_ ?_ ?_
    · rintro y b H2 H3 ⟨l, ns, rfl, h1, h2, h3, h4⟩ g
      exact ⟨l, ns, rfl, h1, h2, g.at h3 h2, h4⟩
    · rintro y b H2 xs zs ⟨l, ns, rfl, h1, h2, h3, h4⟩ _
      exact ⟨l, ns, rfl, h1, h2, by rw [upd_ne h1]; exact h3, h4⟩
    · rintro j x b H5 acc Qe rfl hb g5 hD5' kk
      have hP5 := g5.pl hP4
      refine ⟨_, rfl, (m : Int), rfl, by omega, by omega, fun D6 hD6 => ?_⟩
      have hD6p : D6 ≠ p := hP5.fresh hD6
      refine lcT (hr_gp (T := T0) (p := p) (q := q) (ms := ms)) (Nat.lt_of_lt_of_le (show 6 < 10 by decide) (Nat.le_of_eq rfl)) (by omega) hD6 hD6p ?_ ?_
      · rintro i H6 Qb hi g6 kb
        refine ⟨_, rfl, p, q, ms, 3, rfl, g6.pl hP5, by decide, fun r H7 _ _ g7 => ⟨_, _, rfl, rfl, _, rfl, kb _ _ g7⟩⟩
      · rintro H6 ns g6 hD6' hp hn hl
        refine kk _ _ g6 ⟨D6, ns, rfl, (ne_of_none hD5' hD6).symm, hD6p, hD6', hp, fun i hi => ?_, by omega⟩
        have := hn i hi
        omega
    rintro H5 ys5 g5 hD5' al5
    have hP5 := g5.pl hP4
    have hD45 := g5.at hD4 hDp
    -- the firsts
    refine ⟨_, rfl, (m : Int), rfl, by omega, by omega, fun D6 hD6 => ?_⟩
    have hD6p : D6 ≠ p := hP5.fresh hD6
    refine lcT (hr_gp (T := T0) (p := p) (q := q) (ms := ms)) (Nat.lt_of_lt_of_le (show 6 < 10 by decide) (Nat.le_of_eq rfl)) (by omega) hD6 hD6p ?_ ?_
    · rintro i H6 Qb hi g6 kb
      refine ⟨_, rfl, p, q, ms, 2, rfl, g6.pl hP5, by decide, fun r H7 _ _ g7 => ⟨rfl, _, rfl, kb _ _ g7⟩⟩
    rintro H6 fs g6 hD6' hfp hfn hfl
    have hP6 := g6.pl hP5
    obtain ⟨nx, alx⟩ := al_choice (R := fun y (ns : List Int) => ∃ l, y = V.ref l ∧ l ≠ p ∧ H5 l = some (.lst (ns.map V.int)) ∧ ns.Pairwise (· < ·) ∧ (∀ i ∈ ns, 0 ≤ i ∧ i < (m : Int)) ∧ ns.length ≤ m) (ys := ys5) fun y hy => by
      obtain ⟨i, hi⟩ := List.getElem?_of_mem hy
      obtain ⟨b, _, l, ns, h1, _, h2, h3⟩ := al5.get hi
      exact ⟨ns, l, h1, h2, h3⟩
    have hxl : nx.length = m := by
      have h1 := al5.1
      rw [List.length_range] at h1
      have h2 := alx.1
      omega
    have nxm : ∀ ns ∈ nx, ns.Pairwise (· < ·) ∧ (∀ i ∈ ns, 0 ≤ i ∧ i < (m : Int)) ∧ ns.length ≤ m := fun ns hn => by
      obtain ⟨i, hi⟩ := List.getElem?_of_mem hn
      have hl := (List.getElem?_eq_some_iff.mp hi).1
      have hl2 : i < ys5.length := by rw [alx.1]; exact hl
      obtain ⟨l, _, _, _, h⟩ := alx.2 i _ ns (List.getElem?_eq_getElem hl2) hi
      exact h
    have hm8 : m ≤ 8 := by omega
    have D4a := (g5.trans g6).at hD4 hDp
    have D5a := g6.at hD5' hD5p
    have gAll := gp3.trans (g4.trans (g5.trans g6))
    -- the dict
    have fin : ∀ (l7 : Addr) (fs' : List Int) (H7 : Hp) (D7 : Addr), Gp T0 p q ms H6 H7 → H7 l7 = some (.lst (fs'.map V.int)) → fs'.Pairwise (· < ·) → (∀ i ∈ fs', 0 ≤ i ∧ i < (m : Int)) → fs' ≠ [] → fs'.length ≤ 8 →
        H7 D7 = some (.dK []) → (H6 D7 = none) → Q (.ref D7) (upd H7 D7 (.dK (mergeK [] [(.inr "kinds", .ref D), (.inr "nexts", .ref D5), (.inr "firsts", .ref l7)]))) := by
      intro l7 fs' H7 D7 g7 h7 hp7 hi7 hne7 hl7 hD7 hD7n
      have nD : ∀ {x : Addr} {u : List V} {o : HO}, H7 x = some (.lst u) → (upd H7 D7 o) x = some (.lst u) := fun {x u o} hx => by
        rw [upd_ne fun z => by rw [z, hD7] at hx; cases hx]
        exact hx
      refine k ⟨ks, nx, fs'⟩ _ _ ⟨⟨⟨by show 1 ≤ ks.length; omega, by show ks.length ≤ 8; omega, fun z hz => ?_⟩, ?_, fun ns hn => ?_, ?_, nodup_of_lt hp7, hne7, fun ns hn => ?_, ?_⟩, fun ns hn => (nxm ns hn).1, hp7, fun ns hn => Nat.le_trans (nxm ns hn).2.2 hm8, hl7⟩ hkw ?_ ((gAll.trans g7).putD ?_ hD7) ⟨D7, D, D5, l7, rfl, upd_same, nD (g7.at D4a hDp), ⟨ys5, nD (g7.at D5a hD5p), alx.1, fun i v ns h1 h2 => ?_⟩, nD h7⟩
      · exact hW.w z (hkw z hz)
      · show nx.length = ks.length
        omega
      · refine ⟨fun i hi => ?_, nodup_of_lt (nxm ns hn).1⟩
        have := (nxm ns hn).2.1 i hi
        show 0 ≤ i ∧ i < (ks.length : Int)
        omega
      · intro i hi
        have := hi7 i hi
        show 0 ≤ i ∧ i < (ks.length : Int)
        omega
      · have := (nxm ns hn).2.2
        omega
      · show fs'.length ≤ 1000
        omega
      · show (ks.length : Int) ≤ n
        omega
      · exact gAll.free hD7n
      · obtain ⟨l, rfl, hlp, hl, _⟩ := alx.2 i v ns h1 h2
        exact ⟨l, rfl, nD ((g6.trans g7).at hl hlp)⟩
    intro D7 hD7
    have g7 : Gp T0 p q ms H6 (upd H6 D7 (.dK [])) := .new hD7
    have hD77 : (upd H6 D7 (.dK [])) D7 = some (.dK []) := upd_same
    have hD67 := g7.at hD6' hD6p
    generalize (upd H6 D7 (.dK [])) = H7 at g7 hD77 hD67 ⊢
    refine ⟨_, rfl, _, rfl, _, rfl, (by show 0 ≤ sizeLine; decide), fun l8 hl8 => ?_⟩
    have e8 := Same.upd (o := .lst []) hl8
    refine ⟨_, _, .lst (SqL.of (e8 _ _ hD67)) (DpAll.ints fs), .lst (SqL.of upd_same) .nil, shaped_ints fs, rfl, _, rfl, ?_⟩
    have hD78 := e8 _ _ hD77
    by_cases hf : fs = []
    · subst hf
      refine iteF ⟨(by show 1 ≤ sizeLine; decide), fun l9 hl9 => ?_⟩
      have e9 := Same.upd (o := .lst [.int 0]) hl9
      refine ⟨e9 _ _ hD78, [(.inr "kinds", .ref D), (.inr "nexts", .ref D5), (.inr "firsts", .ref l9)], rfl, (by show 3 ≤ 15; decide), ?_⟩
      refine fin l9 [0] _ D7 (g7.trans (.same (e8.trans e9))) upd_same (by simp) (fun i hi => ?_) (by simp) (by simp) (e9 _ _ hD78) hD7
      rw [List.mem_singleton.mp hi]
      omega
    · have en : PyData.eqv (.list (fs.map PyData.int)) (.list []) = false := by
        cases hf' : fs with
        | nil => exact absurd hf' hf
        | cons y r => rfl
      rw [en]
      refine iteT ⟨_, rfl, hD78, [(.inr "kinds", .ref D), (.inr "nexts", .ref D5), (.inr "firsts", .ref D6)], rfl, (by show 3 ≤ 15; decide), ?_⟩
      exact fin D6 fs _ D7 (g7.trans (.same e8)) (e8 _ _ hD67) hfp (fun i hi => by have := hfn i hi; omega) hf (by omega) hD78 hD7
end
end Ps

/-! The laws' own rows, made. -/
namespace Ps
open PySem PySem.Spec PyProof.Rows PySem.W L2 LamX

theorem Gr.made {T : List (Addr × Str)} {H1 H3 : Hp} {x dx C : Addr} (hx : H1 x = none) (hdx : H1 dx = none) (hne : dx ≠ x) (g : Gr T (some x) (upd (upd H1 dx (.own x)) x (.ins C dx [])) H3) : Gr T none H1 H3 := by
  have n : (upd H1 dx (.own x)) x = none := by rw [upd_ne hne.symm]; exact hx
  have s : Same H1 (upd (upd H1 dx (.own x)) x (.ins C dx [])) := (Same.upd hdx).trans (Same.upd n)
  exact ⟨fun b o _ h nt => g.x b o (fun z => by rw [Option.some.inj z, hx] at h; cases h) (s b o h) nt, fun t => g.t (t.ext s), fun b h => s.free (g.f b h)⟩
theorem RwAt.gr {T : List (Addr × Str)} {CR : Addr} {H H' : Hp} {v : V} {R : RwD} (g : Gr T none H H') (h : RwAt CR H v R) : RwAt CR H' v R := by
  obtain ⟨x, dx, a, b, c, rfl, hx, ⟨h1, ⟨rs, h2, h3⟩, h4⟩⟩ := h
  exact ⟨x, dx, a, b, c, rfl, g.at hx, ⟨g.at h1, ⟨rs, g.at h2, h3.imp fun v ns ⟨l, hv, hl⟩ => ⟨l, hv, g.at hl⟩⟩, g.at h4⟩⟩
theorem LRow.gr {T : List (Addr × Str)} {H H' : Hp} {v : V} {R : RwD} (g : Gr T none H H') (h : LRow H v R) : LRow H' v R := by
  obtain ⟨d, a, b, c, rfl, hx, ⟨h1, ⟨rs, h2, h3⟩, h4⟩⟩ := h
  exact ⟨d, a, b, c, rfl, g.at hx, ⟨g.at h1, ⟨rs, g.at h2, h3.imp fun v ns ⟨l, hv, hl⟩ => ⟨l, hv, g.at hl⟩⟩, g.at h4⟩⟩
theorem LRow.mono {H H' : Hp} {v : V} {R : RwD} (e : Same H H') (h : LRow H v R) : LRow H' v R := h.gr (T := []) (.of e)
def rListOf (K : Frag) : List V → Hp → VK → Prop := fun xs H Q => ∃ p ys, xs = [.ref p] ∧ (SqL K H p ys ∨ SqT K H p ys) ∧ ∀ l, H l = none → Q (.ref l) (upd H l (.lst ys))
def spMadeR (T : List (Addr × Str)) (CR : Addr) : Sp := fun vs H Q _ => ∃ v R, vs = [v] ∧ Tabs T H ∧ LRow H v R ∧ RwG R ∧ ∀ w H', Grow T H H' → RwAt CR H' w R.srt → Q w H'
def spRows0 (T : List (Addr × Str)) (CR : Addr) : Sp := fun vs H Q _ => ∃ x dx a b c R, vs = [.ref x, .ref a, .ref b, .ref c] ∧ H x = some (.ins CR dx []) ∧ Tabs T H ∧ RwL H a b c R ∧ RwG R ∧ ∀ H' a b c, Gr T (some x) H H' → H' x = some (.ins CR dx (rwF a b c)) → RwL H' a b c R.srt → RwN H H' a b c → Q .non H'
theorem spRows0_of {K : Frag} {T : List (Addr × Str)} {CR CB : Addr} {vs : List V} {H : Hp} {Q : VK} {E : XK} (h : spRows0 T CR vs H Q E) : spRows K T CR CB vs H Q E0 := by
  obtain ⟨x, dx, a, b, c, R, rfl, hx, hT, L, G, k⟩ := h
  obtain ⟨rs, h1, h2, h3, h4⟩ := L.nds (K := K) G
  exact ⟨x, dx, .ref a, .ref b, .ref c, .inr R, rfl, hx, hT, .inr ⟨a, R.ks, rfl, L.ks, G.k, .inr ⟨b, rs, _, rfl, h1, h2, h4, by simp, .inr ⟨c, R, rfl, L, G, rfl, rfl⟩⟩⟩, k⟩
section
variable {Z : Cz} {f CR : Addr} {fd : FuncData} {T0 : List (Addr × Str)}
theorem ok_madeR (F : Fun Z.K "_law_made_rows" "_law_made_rows" s_lw_made_rows f fd) (T : RwB Z) (c_Rows : CalC Z CX0 3 CR "Rows" ["self", "kinds", "nexts", "firsts"] [] (spRows0 T0 CR)) : Z.ok CX0 5 f fd ["_law_rows_here"] (spMadeR T0 CR) := by
  refine F.ok sc_lw_made_rows (fun vs H Q E h => ?_) (fun cdv A outer s H vs Q E hr h => ?_)
  · obtain ⟨v, R, rfl, _⟩ := h
    rfl
  · obtain ⟨v, R, rfl, hT, hL, hG, k⟩ := h
    obtain ⟨d, a, b, c, rfl, hd, L⟩ := hL
    obtain ⟨rs, hb, al⟩ := L.nx
    refine ⟨_, (pss_one (ps_ret (pe_calC c_Rows (hr.mono (by decide)) (by rfl) pass0 (pa_cons (pe_callTy call_list_of (by rfl) T.list (by decide +kernel) (pa_cons (pe_dget (hu_of hr) (pv 0) pe_str (fun _ _ => rfl)) pa_nil)) (pa_cons (pe_lc (own := [("_law_row", 1)]) (g := gName 1) (tt := tYes) (by rfl) sc_lw_made_rows.nd (pi_list (pe_dget (hu_of hr) (pv 0) pe_str (fun _ _ => rfl))) (blkOk_by (own := [("_law_row", 1)]) (N := ["_law_rows_here", "_law_row"]) (sc := defScope s_lw_made_rows) (by decide +kernel)) (fun _ _ _ _ _ => (pg_name (i := 1) sc_lw_made_rows.nd rfl (Or.inl rfl))) (fun _ _ _ _ _ => pts_nil) (fun _ _ _ _ _ => (pe_callTy (T := "list") (show CallR _ (.type "list") (rListOf Z.K) from call_list_of) (by rfl) T.list (by decide +kernel) (pa_cons (pv 1) pa_nil)))) (pa_cons (pe_callTy call_list_of (by rfl) T.list (by decide +kernel) (pa_cons (pe_dget (hu_of hr) (pv 0) pe_str (fun _ _ => rfl)) pa_nil)) pa_nil)))))), ?_⟩
    refine ⟨_, rfl, d, _, rfl, .inl ⟨_, .inr "kinds", .inl hd, rfl, rfl⟩, a, _, rfl, .inl (SqL.of L.ks), fun l1 hl1 => ?_⟩
    have e1 := Same.upd (o := .lst (R.ks.map V.str)) hl1
    refine ⟨_, rfl, d, _, rfl, .inl ⟨_, .inr "nexts", .inl (e1 _ _ hd), rfl, rfl⟩, b, rfl, ⟨_, SqL.of (e1 _ _ hb)⟩, fun D hD => ?_⟩
    have u1 : (upd H l1 (.lst (R.ks.map V.str))) l1 = some (.lst (R.ks.map V.str)) := upd_same
    generalize (upd H l1 (.lst (R.ks.map V.str))) = H1 at e1 hD u1 ⊢
    refine lcR hr_same (walk_list (K := Z.K) (a := b) (xs := rs)) yat (bs := R.nx) (fun y ns H' => ∃ l, y = V.ref l ∧ l ≠ D ∧ H' l = some (.lst (ns.map V.int))) al.1.symm (by have := hG.nl; have := hG.k.l8; have := al.1; omega) hD trivial (fun H2 e2 => SqL.of ((e1.trans e2) _ _ hb)) ?_ ?_ ?_ ?_
    · rintro y ns H2 H3 ⟨l, rfl, hl, h⟩ e
      exact ⟨l, rfl, hl, e _ _ h⟩
    · rintro y ns H2 xs zs ⟨l, rfl, hl, h⟩ _
      exact ⟨l, rfl, hl, by rw [upd_ne hl]; exact h⟩
    · rintro j y ns H2 acc Qe hy hns e2 hD2 kk
      obtain ⟨l, rfl, hl⟩ := al.2 j y ns hy hns
      exact ⟨_, rfl, l, _, rfl, .inl (SqL.of ((e1.trans e2) _ _ hl)), fun l2 hl2 => kk _ _ (Same.upd hl2) ⟨l2, rfl, (ne_of_none hD2 hl2).symm, upd_same⟩⟩
    rintro H2 ys e2 hD2 al2
    have e02 := e1.trans e2
    refine ⟨_, rfl, d, _, rfl, .inl ⟨_, .inr "firsts", .inl (e02 _ _ hd), rfl, rfl⟩, c, _, rfl, .inl (SqL.of (e02 _ _ L.fs)), fun l3 hl3 => ?_⟩
    have e3 := Same.upd (o := .lst (R.fs.map V.int)) hl3
    have u3 : (upd H2 l3 (.lst (R.fs.map V.int))) l3 = some (.lst (R.fs.map V.int)) := upd_same
    generalize (upd H2 l3 (.lst (R.fs.map V.int))) = H3 at e3 u3 ⊢
    intro x dx hx hdx hne
    have n : (upd H3 dx (.own x)) x = none := by rw [upd_ne hne.symm]; exact hx
    have s4 : Same H3 (upd (upd H3 dx (.own x)) x (.ins CR dx [])) := (Same.upd hdx).trans (Same.upd n)
    refine ⟨x, dx, l1, D, l3, R, rfl, upd_same, hT.ext (e02.trans (e3.trans s4)), ⟨s4 _ _ (e3 _ _ (e2 _ _ u1)), ⟨ys, s4 _ _ (e3 _ _ hD2), al2.imp fun y ns ⟨l, hy, _, hl⟩ => ⟨l, hy, s4 _ _ (e3 _ _ hl)⟩⟩, s4 _ _ u3⟩, hG, fun H' a' b' c' g hx' L' _ => ⟨rfl, ?_⟩⟩
    exact k _ _ ((Gr.of (e02.trans e3)).trans (.made hx hdx hne g)) ⟨x, dx, a', b', c', rfl, hx', L'⟩
end
end Ps

/-! k16: told, no node. -/
namespace Ps
open PySem PySem.Spec PyProof.Rows PySem.W L2 LamX

theorem KBad.mono {K : Frag} {H H' : Hp} {v : V} (e : Same H H') (h : KBad K H v) : KBad K H' v := by
  cases h with
  | odd ty k => exact .odd (tyX_same e ty) k
  | len h hl => exact .len (e _ _ h) hl
  | word h h1 h8 al hb => exact .word (e _ _ h) h1 h8 (al.imp fun v b q => q.mono e) hb
theorem NBad.mono {K : Frag} {H H' : Hp} {m : Nat} {v : V} (e : Same H H') (h : NBad K H m v) : NBad K H' m v := by
  cases h with
  | odd ty k => exact .odd (tyX_same e ty) k
  | len h hl => exact .len (e _ _ h) hl
  | row h hl al hb => exact .row (e _ _ h) hl (al.imp fun v b q => q.mono e) hb
theorem FBad.mono {K : Frag} {H H' : Hp} {m : Nat} {v : V} (e : Same H H') (h : FBad K H m v) : FBad K H' m v := by
  cases h with
  | odd h => exact .odd (h.mono e)
  | nil h => exact .nil (e _ _ h)
theorem RwO.mono {K : Frag} {H H' : Hp} {v1 v2 v3 : V} {o : Str ⊕ RwD} (e : Same H H') (h : RwO K H v1 v2 v3 o) : RwO K H' v1 v2 v3 o := by
  rcases h with ⟨h, ho⟩ | ⟨a, ks, h1, h2, h3, h⟩
  · exact .inl ⟨h.mono e, ho⟩
  · refine .inr ⟨a, ks, h1, e _ _ h2, h3, ?_⟩
    rcases h with ⟨h, ho⟩ | ⟨b, xs, bs, h4, h5, h6, h7, h8, h⟩
    · exact .inl ⟨h.mono e, ho⟩
    · refine .inr ⟨b, xs, bs, h4, e _ _ h5, h6, h7.imp fun v b q => q.mono e, h8, ?_⟩
      rcases h with ⟨h, ho⟩ | ⟨c, R, h9, h10, h11, h12, ho⟩
      · exact .inl ⟨h.mono e, ho⟩
      · exact .inr ⟨c, R, h9, h10.mono e, h11, h12, ho⟩
def toldT : Str ⊕ RwD → Str
  | .inl z => z
  | .inr _ => "ok"
def spTold (K : Frag) (T : List (Addr × Str)) : Sp := fun vs H Q _ => ∃ v1 v2 v3 o, vs = [v1, v2, v3] ∧ Tabs T H ∧ RwO K H v1 v2 v3 o ∧ ∀ H', Grow T H H' → Q (.str (toldT o)) H'
/-- a value that is no node -/
def NoN (K : Frag) (R : RwD) (H : Hp) (n : V) : Prop := (∃ i, n = .int i ∧ ¬ (0 ≤ i ∧ i < R.ks.length)) ∨ NnI K H n
def spNoNode (K : Frag) (CR : Addr) : Sp := fun vs H Q _ => ∃ v n R d, ∃ w : Int, vs = [v, n, .int w] ∧ RwAt CR H v R ∧ NoN K R H n ∧ Dp K H n d ∧ Rp d ∧ ∀ H', Same H H' → Q (.str d.shown) H'
section
variable {Z : Cz} {f CR CB CN P fB fN : Addr} {fd : FuncData} {T0 : List (Addr × Str)}
theorem ok_told (F : Fun Z.K "_law_told" "_law_told" s_lw_told f fd) (TB : ExT Z.K Z.mg "BadRows" "field" "BadRows.__init__" CB P fB) (eBB : exmOne Z.K (.ref CB) (.ref CB) = some true) (c_Rows : CalC Z (CXN Z) 3 CR "Rows" ["self", "kinds", "nexts", "firsts"] [] (spRows Z.K T0 CR CB)) :
    Z.ok CX0 5 f fd ["_law_kinds", "_law_nexts", "_law_firsts"] (spTold Z.K T0) := by
  refine F.ok sc_lw_told (fun vs H Q E h => ?_) (fun cdv A outer s H vs Q E hr h => ?_)
  · obtain ⟨v1, v2, v3, o, rfl, _⟩ := h
    rfl
  · obtain ⟨v1, v2, v3, o, rfl, hT, ho, k⟩ := h
    have nd := sc_lw_told.nd
    refine ⟨_, PSs.nox (pss_cons (ps_tryN (Wout := fun _ _ _ _ => False) rfl rfl nd takesN0
        (fun W pn xe tk _ => pss_one (ps_expr (pe_calCS c_Rows hr (by rfl) (fun σ => L2N.passAt tk σ) (pa_cons (pv 0) (pa_cons (pv 1) (pa_cons (pv 2) pa_nil))))))
        (HdsN.cons (i := 3) rfl rfl ⟨rfl, by decide, Or.inl TB.gC⟩ (fun a oe cls d pn hz hf => pss_one (ps_ret (pe_xf TB.xf TB.noN hz.zc hf (pv 3)))) .nil))
      (pss_one (ps_ret pe_str))), ?_⟩
    refine ⟨_, rfl, _, rfl, _, rfl, fun x dx hx hdx hne => ?_⟩
    have n : (upd H dx (.own x)) x = none := by rw [upd_ne hne.symm]; exact hx
    have s1 : Same H (upd (upd H dx (.own x)) x (.ins CR dx [])) := (Same.upd hdx).trans (Same.upd n)
    refine ⟨x, dx, v1, v2, v3, o, rfl, upd_same, hT.ext s1, ho.mono s1, ?_⟩
    cases o with
    | inl z =>
      intro d H' e hd hx'
      refine ⟨true, eBB, fun _ a ha => ?_, fun z => by cases z⟩
      exact ⟨_, rfl, rfl, rfl, d, _, _, rfl, hx', lookup_one, k H' (.of (s1.trans e))⟩
    | inr R =>
      intro H' a b c g hx' L _
      exact ⟨rfl, k H' (.made hx hdx hne g)⟩
theorem ok_no_node (F : Fun Z.K "_law_no_node" "_law_no_node" s_lw_no_node f fd) (mr : Z.mg "repr" = none) (TN : ExT Z.K Z.mg "NoNode" "value" "NoNode.__init__" CN P fN) (eNN : exmOne Z.K (.ref CN) (.ref CN) = some true)
    (c_kind : CalM Z (CXN Z) 4 CR "kind" ["self", "node"] [] (spKind Z.K CR CN)) (c_nexts : CalM Z (CXN Z) 4 CR "nexts" ["self", "node"] [] (spRNexts Z.K CR CN)) :
    FnG Z.P Z.w Z.K Z.mg Z.base CX0 5 f fd ["_law_made", "_law_odd", "_law_way"] (spNoNode Z.K CR) := by
  refine Fun.okG F sc_lw_no_node (fun vs H Q E h => ?_) (fun cdv A outer s H vs Q E hr hgd h => ?_)
  · obtain ⟨v, n, R, d, w, rfl, _⟩ := h
    rfl
  · obtain ⟨v, n, R, dd, w, rfl, hR, hn, hd, hp, k⟩ := h
    have nd := sc_lw_no_node.nd
    obtain ⟨x, dx, a, b, c, rfl, hx, L⟩ := id hR
    refine ⟨_, PSs.nox (pss_cons (ps_tryN (Wout := fun _ _ _ _ => False) rfl rfl nd takesN0
        (fun W pn xe tk _ => pss_one (ps_if (pt_cmpR op_eq (pv 2) pe_int (nomark _)) (pss_one (ps_expr (pe_calMS c_kind hr (fun σ => L2N.passAt tk σ) (pv 0) (pa_cons (pv 1) pa_nil)))) (pss_one (ps_expr (pe_calMS c_nexts hr (fun σ => L2N.passAt tk σ) (pv 0) (pa_cons (pv 1) pa_nil))))))
        (HdsN.cons (i := 3) rfl rfl ⟨rfl, by decide, Or.inl TN.gC⟩ (fun a oe cls d pn hz hf => pss_one (ps_ret (pe_callB (show CallR _ _ (rRepr Z.K) from call_repr hgd hr.units) (by rfl) mr (by decide +kernel) (pa_cons (pe_xf TN.xf TN.noN hz.zc hf (pv 3)) pa_nil)))) .nil))
      (pss_one (ps_ret pe_str))), ?_⟩
    by_cases h0 : w = 0
    · subst h0
      refine ⟨_, rfl, rfl, _, rfl, iteT ⟨_, rfl, x, dx, _, rfl, hx, rfl, _, rfl, _, n, R, rfl, hR, ?_⟩⟩
      rcases hn with ⟨i, hi, hn⟩ | hn
      · refine .inr (.inl ⟨i, hi, hn, fun d H' e hd' hx' => ⟨true, eNN, fun _ a ha => ?_, fun z => by cases z⟩⟩)
        exact ⟨_, rfl, rfl, rfl, d, _, _, rfl, hx', lookup_one, n, dd, rfl, Dp.mono e hd, hp.show_, hp.nod, hp.d60, hp.sz, k H' e⟩
      · refine .inr (.inr ⟨hn, fun d H' e hd' hx' => ⟨true, eNN, fun _ a ha => ?_, fun z => by cases z⟩⟩)
        exact ⟨_, rfl, rfl, rfl, d, _, _, rfl, hx', lookup_one, n, dd, rfl, Dp.mono e hd, hp.show_, hp.nod, hp.d60, hp.sz, k H' e⟩
    · have hdo : decide (V.int w = V.int 0) = false := decide_eq_false fun z => h0 (V.int.inj z)
      refine ⟨_, rfl, rfl, _, rfl, ?_⟩
      rw [hdo]
      refine iteF ⟨_, rfl, x, dx, _, rfl, hx, rfl, _, rfl, _, n, R, rfl, hR, ?_⟩
      rcases hn with ⟨i, hi, hn⟩ | hn
      · refine .inr (.inl ⟨i, hi, hn, fun d H' e hd' hx' => ⟨true, eNN, fun _ a ha => ?_, fun z => by cases z⟩⟩)
        exact ⟨_, rfl, rfl, rfl, d, _, _, rfl, hx', lookup_one, n, dd, rfl, Dp.mono e hd, hp.show_, hp.nod, hp.d60, hp.sz, k H' e⟩
      · refine .inr (.inr ⟨hn, fun d H' e hd' hx' => ⟨true, eNN, fun _ a ha => ?_, fun z => by cases z⟩⟩)
        exact ⟨_, rfl, rfl, rfl, d, _, _, rfl, hx', lookup_one, n, dd, rfl, Dp.mono e hd, hp.show_, hp.nod, hp.d60, hp.sz, k H' e⟩
end
end Ps

/-! k16: right. -/
namespace Ps
open PySem PySem.Spec PyProof.Rows PySem.W L2 LamX

def spRNexts0 (CR : Addr) : Sp := fun vs H Q _ => ∃ v i R ns, vs = [v, .int i] ∧ RwAt CR H v R ∧ 0 ≤ i ∧ i < R.ks.length ∧ R.nx[i.toNat]? = some ns ∧ ∀ l H', Same H H' → H l = none → H' l = some (.lst (ns.map V.int)) → Q (.ref l) H'
def spRight (CR : Addr) (T : List (Addr × Str)) : Sp := fun vs H Q _ => ∃ v w R, vs = [v, w] ∧ Tabs T H ∧ RwAt CR H v R ∧ LRow H w R ∧ RwU R ∧ ∀ H', Grow T H H' → Q (.bl true) H'
theorem kinds_sh {R : RwD} (g : RwG R) : SeqAt.shaped (.list (R.ks.map PyData.str)) = true := shaped_strs fun z hz => isW_strOk (g.k.w z hz)
theorem nx_shaped (nx : List (List Int)) : SeqAt.shaped (.list (nxD nx)) = true := by
  obtain ⟨h1, h2⟩ := lay_nx nx
  have hc : PyData.canLay0 (.list (nxD nx)) = true := h1
  have hd : PyData.depth (.list (nxD nx)) ≤ 64 := by
    show PyData.depthAll (nxD nx) + 1 ≤ 64
    omega
  unfold SeqAt.shaped
  rw [hc, decide_eq_true hd]
  rfl
section
variable {Z : Cz} {f CR : Addr} {fd : FuncData} {T0 : List (Addr × Str)}
theorem ok_right (F : Fun Z.K "_law_right" "_law_right" s_lw_right f fd) (T : DrT Z) (C : RwC Z CR) (c_len : CalS Z CX0 1 CR "__len__" ["self"] (spRLen CR)) (c_firsts : CalM Z CX0 1 CR "firsts" ["self"] [] (spRFirsts CR))
    (c_kind : CalM Z CX0 4 CR "kind" ["self", "node"] [] (spKind0 CR)) (c_nexts : CalM Z CX0 4 CR "nexts" ["self", "node"] [] (spRNexts0 CR)) (c_lw_sorted : Cal Z CX0 2 "_law_sorted" ["_law_some"] [] (spAsc Z.K T0)) :
    Z.ok CX0 5 f fd ["_law_made", "_law_rows_here"] (spRight CR T0) := by
  refine F.ok sc_lw_right (fun vs H Q E h => ?_) (fun cdv A outer s H vs Q E hr h => ?_)
  · obtain ⟨v, w, R, rfl, _⟩ := h
    rfl
  · obtain ⟨v, w, R, rfl, hT, hR, hL, hU, k⟩ := h
    have hG := hU.g
    obtain ⟨x, dx, a, b, c, rfl, hx, L⟩ := id hR
    obtain ⟨d, ka, kb, kc, rfl, hd, LL⟩ := id hL
    refine ⟨_, (pss_cons (ps_set (i := 2) sc_lw_right.nd rfl (Or.inl rfl) (pe_callB call_len_seq (by rfl) T.len PySem.boot_len (pa_cons (pe_dget (hu_of hr) (pv 1) pe_str (fun _ _ => rfl)) pa_nil)))
      (pss_cons (ps_if (PW.pt (pw_or (pt_cmpR op_ne (pe_callB (len_cal c_len (hr.mono (by decide)) pass0) (by rfl) T.len PySem.boot_len (pa_cons (pv 0) pa_nil)) (pv 2) (nomark _)) (pw_or1 (pt_cmpR (op_neD hr.units) (pe_calM0 c_firsts (hr.mono (by decide)) pass0 (pv 0)) (pe_cal c_lw_sorted (hr.mono (by decide)) (by rfl) pass0 (pa_cons (pe_dget (hu_of hr) (pv 1) pe_str (fun _ _ => rfl)) pa_nil)) (nomark _)))))
      (pss_one (ps_ret pe_bl))
      pss_nil)
      (pss_cons (ps_if (pt_cmpR (op_neD hr.units) (pe_lc (own := [("_law_node", 3)]) (g := gName 3) (tt := tYes) (by rfl) sc_lw_right.nd (pi_range1 (by rfl) T.range (pa_cons (pv 2) pa_nil)) (blkOk_by (own := [("_law_node", 3)]) (N := ["_law_made", "_law_rows_here", "_law_many", "_law_node", "_law_row"]) (sc := defScope s_lw_right) (by decide +kernel)) (fun _ _ _ _ _ => (pg_name (i := 3) sc_lw_right.nd rfl (Or.inl rfl))) (fun _ _ _ _ _ => pts_nil) (fun _ _ _ _ _ => (pe_calM c_kind (hr.mono (by decide)) pass0 (pv 0) (pa_cons (pv 3) pa_nil)))) (pe_dget (hu_of hr) (pv 1) pe_str (fun _ _ => rfl)) (nomark _))
      (pss_one (ps_ret pe_bl))
      pss_nil)
      (pss_one (ps_ret (pe_cmpR (op_eqD hr.units) (pe_lc (own := [("_law_node", 3)]) (g := gName 3) (tt := tYes) (by rfl) sc_lw_right.nd (pi_range1 (by rfl) T.range (pa_cons (pv 2) pa_nil)) (blkOk_by (own := [("_law_node", 3)]) (N := ["_law_made", "_law_rows_here", "_law_many", "_law_node", "_law_row"]) (sc := defScope s_lw_right) (by decide +kernel)) (fun _ _ _ _ _ => (pg_name (i := 3) sc_lw_right.nd rfl (Or.inl rfl))) (fun _ _ _ _ _ => pts_nil) (fun _ _ _ _ _ => (pe_calM c_nexts (hr.mono (by decide)) pass0 (pv 0) (pa_cons (pv 3) pa_nil)))) (pe_lc (own := [("_law_row", 4)]) (g := gName 4) (tt := tYes) (by rfl) sc_lw_right.nd (pi_list (pe_dget (hu_of hr) (pv 1) pe_str (fun _ _ => rfl))) (blkOk_by (own := [("_law_row", 4)]) (N := ["_law_made", "_law_rows_here", "_law_many", "_law_node", "_law_row"]) (sc := defScope s_lw_right) (by decide +kernel)) (fun _ _ _ _ _ => (pg_name (i := 4) sc_lw_right.nd rfl (Or.inl rfl))) (fun _ _ _ _ _ => pts_nil) (fun _ _ _ _ _ => (pe_cal c_lw_sorted (hr.mono (by decide)) (by rfl) pass0 (pa_cons (pv 4) pa_nil)))) (nomark _))))))), ?_⟩
    have hk8 := hG.k.l8
    have hk1 := hG.k.l1
    refine ⟨_, rfl, d, _, rfl, .inl ⟨_, .inr "kinds", .inl hd, rfl, rfl⟩, ka, _, rfl, .inl (SqL.of LL.ks), ?_⟩
    rw [List.length_map]
    refine ⟨_, rfl, _, rfl, ⟨x, dx, _, rfl, hx⟩, _, R, rfl, hR, R.ks.length, rfl, by omega, _, rfl, rfl, _, rfl, ?_⟩
    rw [decide_eq_true rfl]
    refine iteF ?_
    refine ⟨_, rfl, x, dx, _, rfl, hx, rfl, _, R, rfl, hR, fun l1 H1 e1 hl1 h11 => ?_⟩
    have hf10 : ∀ n ∈ R.fs, 0 ≤ n ∧ n < 10 := fun n hn => by
      have := hG.fx n hn
      omega
    have kt : ∀ {ns : List Int}, (∀ n ∈ ns, 0 ≤ n ∧ n < 10) → ∀ y ∈ ns.map V.int, KTx y (kTx y) := fun h y hy => by
      obtain ⟨n, hn, rfl⟩ := List.mem_map.mp hy
      exact ktx_int (h n hn).1 (h n hn).2
    refine ⟨_, rfl, d, _, rfl, .inl ⟨_, .inr "firsts", .inl (e1 _ _ hd), rfl, rfl⟩, kc, _, rfl, hT.ext e1, .inl (SqL.of (e1 _ _ LL.fs)), kt hf10, fun l2 H2 g2 hl2 h22 => ?_⟩
    rw [srt_ints hf10, srtI_of hU.fs] at h22
    refine ⟨_, _, .lst (SqL.of (g2.at h11)) (DpAll.ints _), .lst (SqL.of h22) (DpAll.ints _), shaped_ints _, shaped_ints _, _, rfl, ?_⟩
    rw [eqv_same (shaped_ints _)]
    refine iteF ?_
    have g02 : Grow T0 H H2 := (Gr.of e1).trans g2
    have hR2 := hR.gr g02
    have hd2 := g02.at hd
    -- the kinds
    refine ⟨_, rfl, _, rfl, by omega, by omega, fun D hD => ?_⟩
    refine lcF hr_same (walk_range (lo := 0) (n := ((R.ks.length : Nat) : Int).toNat)) yfn (ys := R.ks.map V.str) (by rw [List.length_map]; omega) (by omega) hD trivial (fun _ _ => trivial) ?_ (fun H3 e3 hD3 => ?_)
    · rintro j y z H3 Qe rfl hz e3 kk
      rw [List.getElem?_map] at hz
      cases hj : R.ks[j]? with
      | none => rw [hj] at hz; cases hz
      | some zz =>
        rw [hj] at hz
        cases hz
        have ej : ((0 : Int) + ((j : Nat) : Int)) = ((j : Nat) : Int) := by omega
        have hR3 := hR2.mono e3
        obtain ⟨_, _, _, _, _, hv, hx3, _⟩ := id hR3
        cases hv
        refine ⟨_, rfl, x, _, _, rfl, hx3, rfl, _, rfl, _, _, R, zz, rfl, hR3, by omega, ?_, kk H3 (Same.refl _)⟩
        rw [ej]
        exact hj
    refine ⟨_, rfl, d, _, rfl, .inl ⟨_, .inr "kinds", .inl (e3 _ _ hd2), rfl, rfl⟩, ?_⟩
    refine ⟨_, _, .lst (SqL.of hD3) (DpAll.strs _), .lst (SqL.of (e3 _ _ (g02.at LL.ks))) (DpAll.strs _), kinds_sh hG, kinds_sh hG, _, rfl, ?_⟩
    rw [eqv_same (kinds_sh hG)]
    refine iteF ?_
    -- the nexts
    have g03 : Grow T0 H H3 := g02.trans (.of e3)
    refine ⟨_, rfl, _, rfl, by omega, by omega, fun D4 hD4 => ?_⟩
    refine lcR hr_same (walk_range (lo := 0) (n := ((R.ks.length : Nat) : Int).toNat)) yfn (bs := R.nx) (fun y ns H' => ∃ l, y = V.ref l ∧ l ≠ D4 ∧ H' l = some (.lst (ns.map V.int))) (by rw [hG.nl]; omega) (by omega) hD4 trivial (fun _ _ => trivial) ?_ ?_ ?_ ?_
    · rintro y ns H5 H6 ⟨l, rfl, hl, h⟩ e
      exact ⟨l, rfl, hl, e _ _ h⟩
    · rintro y ns H5 us ws ⟨l, rfl, hl, h⟩ _
      exact ⟨l, rfl, hl, by rw [upd_ne hl]; exact h⟩
    · rintro j y ns H5 acc Qe rfl hns e5 hD5 kk
      have ej : ((0 : Int) + ((j : Nat) : Int)) = ((j : Nat) : Int) := by omega
      have hj := (List.getElem?_eq_some_iff.mp hns).1
      have hR5 := hR.gr (g03.trans (.of e5))
      obtain ⟨_, _, _, _, _, hv, hx5, _⟩ := id hR5
      cases hv
      rw [hG.nl] at hj
      refine ⟨_, rfl, x, _, _, rfl, hx5, rfl, _, rfl, _, _, R, ns, rfl, hR5, by omega, by omega, ?_, fun l H6 e6 hl h6 => kk _ _ e6 ⟨l, rfl, (ne_of_none hD5 hl).symm, h6⟩⟩
      rw [ej]
      exact hns
    rintro H5 ys e5 hD5 al5
    have g05 := g03.trans (.of e5)
    obtain ⟨rs, hb, al⟩ := LL.nx
    have hb5 := g05.at hb
    refine ⟨_, rfl, d, _, rfl, .inl ⟨_, .inr "nexts", .inl (g05.at hd), rfl, rfl⟩, kb, rfl, ⟨_, SqL.of hb5⟩, fun D6 hD6 => ?_⟩
    refine lcR (hr_gr (T := T0) (p := none)) (walk_list (K := Z.K) (a := kb) (xs := rs)) yat (bs := R.nx) (fun y ns H' => ∃ l, y = V.ref l ∧ l ≠ D6 ∧ H' l = some (.lst (ns.map V.int))) al.1.symm (by have := al.1; have := hG.nl; omega) hD6 (by simp) (fun H7 g7 => SqL.of (g7.at hb5)) ?_ ?_ ?_ ?_
    · rintro y ns H7 H8 ⟨l, rfl, hl, h⟩ g
      exact ⟨l, rfl, hl, g.at h⟩
    · rintro y ns H7 us ws ⟨l, rfl, hl, h⟩ _
      exact ⟨l, rfl, hl, by rw [upd_ne hl]; exact h⟩
    · rintro j y ns H7 acc Qe hy hns g7 hD7 kk
      obtain ⟨l, rfl, hl⟩ := al.2 j y ns hy hns
      have hm := List.mem_of_getElem? hns
      have h10 : ∀ n ∈ ns, 0 ≤ n ∧ n < 10 := fun n hn => by
        have := (hG.nx ns hm).1 n hn
        omega
      refine ⟨_, rfl, l, _, rfl, (g05.trans g7).t hT, .inl (SqL.of ((g05.trans g7).at hl)), kt h10, fun q H8 g8 hq h8 => kk _ _ g8 ⟨q, rfl, (ne_of_none hD7 hq).symm, ?_⟩⟩
      rw [srt_ints h10, srtI_of (hU.nx ns hm)] at h8
      exact h8
    rintro H7 zs g7 hD7 al7
    have e7 : Al (IsInts H7) ys R.nx := al5.imp fun y ns ⟨l, hy, _, hl⟩ => ⟨l, hy, g7.at hl⟩
    have e8 : Al (IsInts H7) zs R.nx := al7.imp fun y ns ⟨l, hy, _, hl⟩ => ⟨l, hy, hl⟩
    refine ⟨_, _, .lst (SqL.of (g7.at hD5)) (nx_dp e7), .lst (SqL.of hD7) (nx_dp e8), nx_shaped _, nx_shaped _, ?_⟩
    rw [eqv_same (nx_shaped _)]
    exact k _ (g05.trans g7)
end
end Ps

set_option maxHeartbeats 8000000
/-! k16: refused. -/
namespace Ps
open PySem PySem.Spec PyProof.Rows PySem.W L2 LamX

section
variable {T : List (Addr × Str)} {K : Frag} {H H' : Hp} {v : V} {b : Bool}
theorem NnI.gr (g : Gr T none H H') (h : NnI K H v) : NnI K H' v := let ⟨t, ty, k⟩ := h; ⟨t, g.ty ty, k⟩
theorem WdB.gr (g : Gr T none H H') (h : WdB K H v b) : WdB K H' v b := by
  cases h with
  | str z h => exact .str z h
  | odd ty k => exact .odd (g.ty ty) k
theorem NdB.gr {m : Int} (g : Gr T none H H') (h : NdB K m H v b) : NdB K m H' v b := by
  cases h with
  | int n => exact .int n
  | odd h => exact .odd (h.gr g)
theorem NdsB.gr {m : Int} (g : Gr T none H H') (h : NdsB K m H v b) : NdsB K m H' v b := by
  cases h with
  | odd ty k => exact .odd (g.ty ty) k
  | bad h hl al hb => exact .bad (g.at h) hl (al.imp fun v b q => q.gr g) hb
  | nds h hl hn => exact .nds (g.at h) hl hn
theorem KBad.gr (g : Gr T none H H') (h : KBad K H v) : KBad K H' v := by
  cases h with
  | odd ty k => exact .odd (g.ty ty) k
  | len h hl => exact .len (g.at h) hl
  | word h h1 h8 al hb => exact .word (g.at h) h1 h8 (al.imp fun v b q => q.gr g) hb
theorem NBad.gr {m : Nat} (g : Gr T none H H') (h : NBad K H m v) : NBad K H' m v := by
  cases h with
  | odd ty k => exact .odd (g.ty ty) k
  | len h hl => exact .len (g.at h) hl
  | row h hl al hb => exact .row (g.at h) hl (al.imp fun v b q => q.gr g) hb
theorem FBad.gr {m : Nat} (g : Gr T none H H') (h : FBad K H m v) : FBad K H' m v := by
  cases h with
  | odd h => exact .odd (h.gr g)
  | nil h => exact .nil (g.at h)
theorem RwL.gr {a b c : Addr} {R : RwD} (g : Gr T none H H') (L : RwL H a b c R) : RwL H' a b c R := by
  obtain ⟨h1, ⟨rs, h2, h3⟩, h4⟩ := L
  exact ⟨g.at h1, ⟨rs, g.at h2, h3.imp fun v ns ⟨l, hv, hl⟩ => ⟨l, hv, g.at hl⟩⟩, g.at h4⟩
/-- wrong kinds -/
theorem RwO.k {v2 v3 : V} (h : KBad K H v) : RwO K H v v2 v3 (.inl "kinds") := .inl ⟨h, rfl⟩
theorem RwO.n {a b c : Addr} {R : RwD} {v2 v3 : V} (L : RwL H a b c R) (G : RwG R) (h : NBad K H R.ks.length v2) : RwO K H (.ref a) v2 v3 (.inl "nexts") := .inr ⟨a, R.ks, rfl, L.ks, G.k, .inl ⟨h, rfl⟩⟩
theorem RwO.f {a b c : Addr} {R : RwD} {v3 : V} (L : RwL H a b c R) (G : RwG R) (h : FBad K H R.ks.length v3) : RwO K H (.ref a) (.ref b) v3 (.inl "firsts") := by
  obtain ⟨rs, h1, h2, h3, h4⟩ := L.nds (K := K) G
  exact .inr ⟨a, R.ks, rfl, L.ks, G.k, .inr ⟨b, rs, _, rfl, h1, h2, h4, by simp, .inl ⟨h, rfl⟩⟩⟩
theorem RwO.good {a b c : Addr} {R : RwD} (L : RwL H a b c R) (G : RwG R) : RwO K H (.ref a) (.ref b) (.ref c) (.inr R) := by
  obtain ⟨rs, h1, h2, h3, h4⟩ := L.nds (K := K) G
  exact .inr ⟨a, R.ks, rfl, L.ks, G.k, .inr ⟨b, rs, _, rfl, h1, h2, h4, by simp, .inr ⟨c, R, rfl, L, G, rfl, rfl⟩⟩⟩
end
theorem cutV_one (xs : List V) : cutV xs (some 1) none = xs.drop 1 := by
  unfold cutV HT.sIx
  cases xs with
  | nil => rfl
  | cons x r => simp
def spRefused (T : List (Addr × Str)) : Sp := fun vs H Q _ => ∃ v R, vs = [v] ∧ Tabs T H ∧ LRow H v R ∧ RwU R ∧ ∀ H', Grow T H H' → Q (.bl true) H'
section
variable {Z : Cz} {f : Addr} {fd : FuncData} {T0 : List (Addr × Str)}
theorem ok_refused (F : Fun Z.K "_law_refused" "_law_refused" s_lw_refused f fd) (T : DrT Z) (c_lw_told : Cal Z CX0 5 "_law_told" ["_law_kinds", "_law_nexts", "_law_firsts"] [] (spTold Z.K T0)) : Z.ok CX0 6 f fd ["_law_rows_here"] (spRefused T0) := by
  refine F.ok sc_lw_refused (fun vs H Q E h => ?_) (fun cdv A outer s H vs Q E hr h => ?_)
  · obtain ⟨v, R, rfl, _⟩ := h
    rfl
  · obtain ⟨v, R, rfl, hT, hL, hU, k⟩ := h
    have hG := hU.g
    obtain ⟨d, ka, kb, kc, rfl, hd, L⟩ := id hL
    refine ⟨_, (pss_cons (ps_par3 (i := 1) (j := 2) (l := 3) (by rfl) sc_lw_refused.nd rfl rfl rfl (by decide) (by decide) (by decide) rfl rfl rfl (pa_cons (pe_dget (hu_of hr) (pv 0) pe_str (fun _ _ => rfl)) (pa_cons (pe_dget (hu_of hr) (pv 0) pe_str (fun _ _ => rfl)) (pa_cons (pe_dget (hu_of hr) (pv 0) pe_str (fun _ _ => rfl)) pa_nil))) (by rfl))
      (pss_cons (ps_set (i := 4) sc_lw_refused.nd rfl (Or.inl rfl) (pe_callB call_len_seq (by rfl) T.len PySem.boot_len (pa_cons (pv 1) pa_nil)))
      (pss_cons (ps_for PassesOwn.never rfl (pi_list (pe_lst (pa_cons pe_non (pa_cons (pe_lst pa_nil) (pa_cons (pe_lst (pa_cons pe_str pa_nil)) (pa_cons (pe_lst (pa_cons pe_non pa_nil)) (pa_cons (pe_op op_rep (pe_lst (pa_cons pe_str pa_nil)) pe_int) (pa_cons (pe_tup (pa_cons pe_str pa_nil)) (pa_cons pe_str (pa_cons (pe_lst (pa_cons pe_str pa_nil)) pa_nil)))))))))) (pg_name (i := 5) sc_lw_refused.nd rfl (Or.inl rfl))
      (pss_one (ps_if (pt_cmpR op_ne (pe_cal c_lw_told (hr.mono (by decide)) (by rfl) pass0 (pa_cons (pv 5) (pa_cons pe_non (pa_cons pe_non pa_nil)))) pe_str (nomark _))
        (pss_one (ps_ret pe_bl))
        pss_nil)))
      (pss_cons (ps_set (i := 6) sc_lw_refused.nd rfl (Or.inl rfl) (pe_lst (pa_cons pe_non (pa_cons (pe_slice sl_list (pv 2) (po_some pe_int) po_none) (pa_cons (pe_op op_cat (pv 2) (pe_lst (pa_cons (pe_lst pa_nil) pa_nil))) (pa_cons (pe_op op_rep (pe_lst (pa_cons pe_non pa_nil)) (pv 4)) (pa_cons (pe_op op_rep (pe_lst (pa_cons (pe_lst (pa_cons (pv 4) pa_nil)) pa_nil)) (pv 4)) (pa_cons (pe_op op_rep (pe_lst (pa_cons (pe_lst (pa_cons pe_int (pa_cons pe_int pa_nil))) pa_nil)) (pv 4)) pa_nil))))))))
      (pss_cons (ps_for PassesOwn.never rfl (pi_list (pe_op op_cat (pv 6) (pe_lst (pa_cons (pe_op op_rep (pe_lst (pa_cons (pe_lst (pa_cons pe_bl pa_nil)) pa_nil)) (pv 4)) (pa_cons (pe_op op_rep (pe_lst (pa_cons (pe_tup (pa_cons pe_int pa_nil)) pa_nil)) (pv 4)) pa_nil))))) (pg_name (i := 5) sc_lw_refused.nd rfl (Or.inl rfl))
      (pss_one (ps_if (pt_cmpR op_ne (pe_cal c_lw_told (hr.mono (by decide)) (by rfl) pass0 (pa_cons (pv 1) (pa_cons (pv 5) (pa_cons pe_non pa_nil)))) pe_str (nomark _))
        (pss_one (ps_ret pe_bl))
        pss_nil)))
      (pss_cons (ps_for PassesOwn.never rfl (pi_list (pe_lst (pa_cons pe_non (pa_cons (pe_lst pa_nil) (pa_cons (pe_lst (pa_cons (pv 4) pa_nil)) (pa_cons (pe_lst (pa_cons pe_int (pa_cons pe_int pa_nil))) (pa_cons (pe_lst (pa_cons pe_bl pa_nil)) (pa_cons (pe_tup (pa_cons pe_int pa_nil)) (pa_cons (pe_lst (pa_cons (pe_un un_neg pe_int) pa_nil)) (pa_cons (pe_lst (pa_cons pe_str pa_nil)) pa_nil)))))))))) (pg_name (i := 5) sc_lw_refused.nd rfl (Or.inl rfl))
      (pss_one (ps_if (pt_cmpR op_ne (pe_cal c_lw_told (hr.mono (by decide)) (by rfl) pass0 (pa_cons (pv 1) (pa_cons (pv 2) (pa_cons (pv 5) pa_nil)))) pe_str (nomark _))
        (pss_one (ps_ret pe_bl))
        pss_nil)))
      (pss_one (ps_ret (pe_cmpR op_eq (pe_cal c_lw_told (hr.mono (by decide)) (by rfl) pass0 (pa_cons (pv 1) (pa_cons (pv 2) (pa_cons (pv 3) pa_nil)))) pe_str (nomark _)))))))))), ?_⟩
    refine ⟨_, rfl, d, _, rfl, .inl ⟨_, .inr "kinds", .inl hd, rfl, rfl⟩, _, rfl, d, _, rfl, .inl ⟨_, .inr "nexts", .inl hd, rfl, rfl⟩, _, rfl, d, _, rfl, .inl ⟨_, .inr "firsts", .inl hd, rfl, rfl⟩, _, _, _, rfl, ?_⟩
    refine ⟨_, rfl, ka, _, rfl, .inl (SqL.of L.ks), ?_⟩
    rw [List.length_map]
    have hk8 := hG.k.l8
    have hk1 := hG.k.l1
    -- wrong kinds
    refine ⟨(by show 0 ≤ sizeLine; decide), fun l1 hl1 => ?_⟩
    have u1 := Same.upd (o := .lst []) hl1
    have a1 : (upd H l1 (.lst [])) l1 = some (.lst []) := upd_same
    generalize (upd H l1 (.lst [])) = G1 at u1 a1 ⊢
    refine ⟨(by show 1 ≤ sizeLine; decide), fun l2 hl2 => ?_⟩
    have u2 := Same.upd (o := .lst [.str "A"]) hl2
    have a2 : (upd G1 l2 (.lst [.str "A"])) l2 = some (.lst [.str "A"]) := upd_same
    generalize (upd G1 l2 (.lst [.str "A"])) = G2 at u2 a2 ⊢
    refine ⟨(by show 1 ≤ sizeLine; decide), fun l3 hl3 => ?_⟩
    have u3 := Same.upd (o := .lst [.non]) hl3
    have a3 : (upd G2 l3 (.lst [.non])) l3 = some (.lst [.non]) := upd_same
    generalize (upd G2 l3 (.lst [.non])) = G3 at u3 a3 ⊢
    refine ⟨(by show 1 ≤ sizeLine; decide), fun l4 hl4 => ?_⟩
    have u4 := Same.upd (o := .lst [.str "a"]) hl4
    have a4 : (upd G3 l4 (.lst [.str "a"])) l4 = some (.lst [.str "a"]) := upd_same
    generalize (upd G3 l4 (.lst [.str "a"])) = G4 at u4 a4 ⊢
    refine ⟨l4, 9, _, rfl, rfl, a4, by decide, by decide, (by show 1 * 9 ≤ sizeLine; decide), fun l5 hl5 => ?_⟩
    have u5 := Same.upd (o := .lst (List.replicate (9 : Int).toNat [V.str "a"]).flatten) hl5
    have a5 : (upd G4 l5 (.lst (List.replicate (9 : Int).toNat [V.str "a"]).flatten)) l5 = some (.lst (List.replicate (9 : Int).toNat [V.str "a"]).flatten) := upd_same
    generalize (upd G4 l5 (.lst (List.replicate (9 : Int).toNat [V.str "a"]).flatten)) = G5 at u5 a5 ⊢
    refine ⟨(by show 1 ≤ sizeLine; decide), fun l6 hl6 => ?_⟩
    have u6 := Same.upd (o := .tup [.str "a"]) hl6
    have a6 : (upd G5 l6 (.tup [.str "a"])) l6 = some (.tup [.str "a"]) := upd_same
    generalize (upd G5 l6 (.tup [.str "a"])) = G6 at u6 a6 ⊢
    refine ⟨(by show 1 ≤ sizeLine; decide), fun l7 hl7 => ?_⟩
    have u7 := Same.upd (o := .lst [.str ""]) hl7
    have a7 : (upd G6 l7 (.lst [.str ""])) l7 = some (.lst [.str ""]) := upd_same
    generalize (upd G6 l7 (.lst [.str ""])) = G7 at u7 a7 ⊢
    refine ⟨(by show 8 ≤ sizeLine; decide), fun l8 hl8 => ?_⟩
    have u8 := Same.upd (o := .lst [.non, .ref l1, .ref l2, .ref l3, .ref l5, .ref l6, .str "a", .ref l7]) hl8
    have a8 : (upd G7 l8 (.lst [.non, .ref l1, .ref l2, .ref l3, .ref l5, .ref l6, .str "a", .ref l7])) l8 = some (.lst [.non, .ref l1, .ref l2, .ref l3, .ref l5, .ref l6, .str "a", .ref l7]) := upd_same
    generalize (upd G7 l8 (.lst [.non, .ref l1, .ref l2, .ref l3, .ref l5, .ref l6, .str "a", .ref l7])) = G8 at u8 a8 ⊢
    have e8 := u1.trans (u2.trans (u3.trans (u4.trans (u5.trans (u6.trans (u7.trans u8))))))
    have b1 := (u2.trans (u3.trans (u4.trans (u5.trans (u6.trans (u7.trans u8)))))) _ _ a1
    have b2 := (u3.trans (u4.trans (u5.trans (u6.trans (u7.trans u8))))) _ _ a2
    have b3 := (u4.trans (u5.trans (u6.trans (u7.trans u8)))) _ _ a3
    have b5 := (u6.trans (u7.trans u8)) _ _ a5
    have b6 := (u7.trans u8) _ _ a6
    have b7 := u8 _ _ a7
    have wf : ∀ z : Str, isW z = false → z.length ≤ 10 → WdB Z.K G8 (.str z) false := fun z hz hl => by
      have q : WdB Z.K G8 (.str z) (isW z) := .str z (Nat.le_trans hl (by decide))
      rw [hz] at q
      exact q
    have kbad : ∀ v ∈ ([.non, .ref l1, .ref l2, .ref l3, .ref l5, .ref l6, .str "a", .ref l7] : List V), KBad Z.K G8 v := by
      intro v hv
      simp only [List.mem_cons, List.not_mem_nil, or_false] at hv
      rcases hv with rfl | rfl | rfl | rfl | rfl | rfl | rfl | rfl
      · exact .odd (.base .non) (kit_ty (by decide +kernel))
      · exact .len b1 (.inl rfl)
      · exact .word (bs := [false]) b2 (by decide) (by decide) (Al.cons (wf "A" (by decide +kernel) (by decide +kernel)) Al.nil) rfl
      · exact .word (bs := [false]) b3 (by decide) (by decide) (Al.cons (.odd (.base .non) (kit_ty (by decide +kernel))) Al.nil) rfl
      · exact .len b5 (.inr (by decide))
      · exact .odd (.base (.tup b6)) (kit_ty (by decide +kernel))
      · exact .odd (.base (.str _)) (kit_ty (by decide +kernel))
      · exact .word (bs := [false]) b7 (by decide) (by decide) (Al.cons (wf "" (by decide +kernel) (by decide +kernel)) Al.nil) rfl
    refine ⟨l8, rfl, ⟨_, SqL.of a8⟩, ?_⟩
    refine for_list (K := Z.K) (a := l8) (xs := [.non, .ref l1, .ref l2, .ref l3, .ref l5, .ref l6, .str "a", .ref l7]) (fun i σ H' => Grow T0 G8 H' ∧ ∃ o5 : Option V, σ = [some (.ref d), some (.ref ka), some (.ref kb), some (.ref kc), some (.int ((R.ks.length : Nat) : Int)), o5, none]) ⟨Gr.refl _, none, rfl⟩ (fun i σ H' _ ⟨g, _⟩ => SqL.of (g.at a8)) ?_ ?_
    · rintro i y σ H' hy ⟨g, o5, rfl⟩
      refine ⟨_, rfl, y, .non, .non, .inl "kinds", rfl, g.t (hT.ext e8), .k ((kbad y (List.mem_of_getElem? hy)).gr g), fun H'' g' => ⟨rfl, _, rfl, ?_⟩⟩
      exact iteF ⟨g.trans g', _, rfl⟩
    rintro σ H1 ⟨g1, o5, rfl⟩
    have gH1 : Grow T0 H H1 := (Gr.of e8).trans g1
    have L1 := L.gr gH1
    obtain ⟨rs, hb1, al1⟩ := L1.nx
    have hrl : rs.length = R.ks.length := al1.1.trans hG.nl
    clear u1 u2 u3 u4 u5 u6 u7 u8 a1 a2 a3 a4 a5 a6 a7 b1 b2 b3 b5 b6 b7 kbad wf
    -- wrong nexts
    refine ⟨_, rfl, 1, rfl, kb, rs, rfl, SqL.of hb1, fun m1 hm1 => ?_⟩
    have v1 := Same.upd (o := .lst (cutV rs (some 1) none)) hm1
    have c1 : (upd H1 m1 (.lst (cutV rs (some 1) none))) m1 = some (.lst (cutV rs (some 1) none)) := upd_same
    generalize (upd H1 m1 (.lst (cutV rs (some 1) none))) = W1 at v1 c1 ⊢
    refine ⟨_, rfl, ?_⟩
    refine ⟨(by show 0 ≤ sizeLine; decide), fun m2 hm2 => ?_⟩
    have v2 := Same.upd (o := .lst []) hm2
    have c2 : (upd W1 m2 (.lst [])) m2 = some (.lst []) := upd_same
    generalize (upd W1 m2 (.lst [])) = W2 at v2 c2 ⊢
    refine ⟨(by show 1 ≤ sizeLine; decide), fun m3 hm3 => ?_⟩
    have v3 := Same.upd (o := .lst [.ref m2]) hm3
    have c3 : (upd W2 m3 (.lst [.ref m2])) m3 = some (.lst [.ref m2]) := upd_same
    generalize (upd W2 m3 (.lst [.ref m2])) = W3 at v3 c3 ⊢
    refine ⟨kb, m3, rs, [.ref m2], rfl, rfl, (v1.trans (v2.trans v3)) _ _ hb1, c3, Nat.le_of_lt (small1000' (by show rs.length + 1 ≤ 100000; omega)), fun m4 hm4 => ?_⟩
    have v4 := Same.upd (o := .lst (rs ++ [.ref m2])) hm4
    have c4 : (upd W3 m4 (.lst (rs ++ [.ref m2]))) m4 = some (.lst (rs ++ [.ref m2])) := upd_same
    generalize (upd W3 m4 (.lst (rs ++ [.ref m2]))) = W4 at v4 c4 ⊢
    refine ⟨(by show 1 ≤ sizeLine; decide), fun m5 hm5 => ?_⟩
    have v5 := Same.upd (o := .lst [.non]) hm5
    have c5 : (upd W4 m5 (.lst [.non])) m5 = some (.lst [.non]) := upd_same
    generalize (upd W4 m5 (.lst [.non])) = W5 at v5 c5 ⊢
    refine ⟨_, rfl, m5, _, _, rfl, rfl, c5, by omega, by omega, (by show 1 * _ ≤ sizeLine; rw [Nat.one_mul]; exact Nat.le_of_lt (small1000' (by omega))), fun m6 hm6 => ?_⟩
    have v6 := Same.upd (o := .lst (List.replicate ((R.ks.length : Nat) : Int).toNat [V.non]).flatten) hm6
    have c6 : (upd W5 m6 (.lst (List.replicate ((R.ks.length : Nat) : Int).toNat [V.non]).flatten)) m6 = some (.lst (List.replicate ((R.ks.length : Nat) : Int).toNat [V.non]).flatten) := upd_same
    generalize (upd W5 m6 (.lst (List.replicate ((R.ks.length : Nat) : Int).toNat [V.non]).flatten)) = W6 at v6 c6 ⊢
    refine ⟨_, rfl, (by show 1 ≤ sizeLine; decide), fun m7 hm7 => ?_⟩
    have v7 := Same.upd (o := .lst [.int ((R.ks.length : Nat) : Int)]) hm7
    have c7 : (upd W6 m7 (.lst [.int ((R.ks.length : Nat) : Int)])) m7 = some (.lst [.int ((R.ks.length : Nat) : Int)]) := upd_same
    generalize (upd W6 m7 (.lst [.int ((R.ks.length : Nat) : Int)])) = W7 at v7 c7 ⊢
    refine ⟨(by show 1 ≤ sizeLine; decide), fun m8 hm8 => ?_⟩
    have v8 := Same.upd (o := .lst [.ref m7]) hm8
    have c8 : (upd W7 m8 (.lst [.ref m7])) m8 = some (.lst [.ref m7]) := upd_same
    generalize (upd W7 m8 (.lst [.ref m7])) = W8 at v8 c8 ⊢
    refine ⟨_, rfl, m8, _, _, rfl, rfl, c8, by omega, by omega, (by show 1 * _ ≤ sizeLine; rw [Nat.one_mul]; exact Nat.le_of_lt (small1000' (by omega))), fun m9 hm9 => ?_⟩
    have v9 := Same.upd (o := .lst (List.replicate ((R.ks.length : Nat) : Int).toNat [V.ref m7]).flatten) hm9
    have c9 : (upd W8 m9 (.lst (List.replicate ((R.ks.length : Nat) : Int).toNat [V.ref m7]).flatten)) m9 = some (.lst (List.replicate ((R.ks.length : Nat) : Int).toNat [V.ref m7]).flatten) := upd_same
    generalize (upd W8 m9 (.lst (List.replicate ((R.ks.length : Nat) : Int).toNat [V.ref m7]).flatten)) = W9 at v9 c9 ⊢
    refine ⟨(by show 2 ≤ sizeLine; decide), fun m10 hm10 => ?_⟩
    have v10 := Same.upd (o := .lst [.int 0, .int 0]) hm10
    have c10 : (upd W9 m10 (.lst [.int 0, .int 0])) m10 = some (.lst [.int 0, .int 0]) := upd_same
    generalize (upd W9 m10 (.lst [.int 0, .int 0])) = W10 at v10 c10 ⊢
    refine ⟨(by show 1 ≤ sizeLine; decide), fun m11 hm11 => ?_⟩
    have v11 := Same.upd (o := .lst [.ref m10]) hm11
    have c11 : (upd W10 m11 (.lst [.ref m10])) m11 = some (.lst [.ref m10]) := upd_same
    generalize (upd W10 m11 (.lst [.ref m10])) = W11 at v11 c11 ⊢
    refine ⟨_, rfl, m11, _, _, rfl, rfl, c11, by omega, by omega, (by show 1 * _ ≤ sizeLine; rw [Nat.one_mul]; exact Nat.le_of_lt (small1000' (by omega))), fun m12 hm12 => ?_⟩
    have v12 := Same.upd (o := .lst (List.replicate ((R.ks.length : Nat) : Int).toNat [V.ref m10]).flatten) hm12
    have c12 : (upd W11 m12 (.lst (List.replicate ((R.ks.length : Nat) : Int).toNat [V.ref m10]).flatten)) m12 = some (.lst (List.replicate ((R.ks.length : Nat) : Int).toNat [V.ref m10]).flatten) := upd_same
    generalize (upd W11 m12 (.lst (List.replicate ((R.ks.length : Nat) : Int).toNat [V.ref m10]).flatten)) = W12 at v12 c12 ⊢
    refine ⟨(by show 6 ≤ sizeLine; decide), fun m13 hm13 => ?_⟩
    have v13 := Same.upd (o := .lst [.non, .ref m1, .ref m4, .ref m6, .ref m9, .ref m12]) hm13
    have c13 : (upd W12 m13 (.lst [.non, .ref m1, .ref m4, .ref m6, .ref m9, .ref m12])) m13 = some (.lst [.non, .ref m1, .ref m4, .ref m6, .ref m9, .ref m12]) := upd_same
    generalize (upd W12 m13 (.lst [.non, .ref m1, .ref m4, .ref m6, .ref m9, .ref m12])) = W13 at v13 c13 ⊢
    refine ⟨_, rfl, ?_⟩
    refine ⟨(by show 1 ≤ sizeLine; decide), fun m14 hm14 => ?_⟩
    have v14 := Same.upd (o := .lst [.bl true]) hm14
    have c14 : (upd W13 m14 (.lst [.bl true])) m14 = some (.lst [.bl true]) := upd_same
    generalize (upd W13 m14 (.lst [.bl true])) = W14 at v14 c14 ⊢
    refine ⟨(by show 1 ≤ sizeLine; decide), fun m15 hm15 => ?_⟩
    have v15 := Same.upd (o := .lst [.ref m14]) hm15
    have c15 : (upd W14 m15 (.lst [.ref m14])) m15 = some (.lst [.ref m14]) := upd_same
    generalize (upd W14 m15 (.lst [.ref m14])) = W15 at v15 c15 ⊢
    refine ⟨_, rfl, m15, _, _, rfl, rfl, c15, by omega, by omega, (by show 1 * _ ≤ sizeLine; rw [Nat.one_mul]; exact Nat.le_of_lt (small1000' (by omega))), fun m16 hm16 => ?_⟩
    have v16 := Same.upd (o := .lst (List.replicate ((R.ks.length : Nat) : Int).toNat [V.ref m14]).flatten) hm16
    have c16 : (upd W15 m16 (.lst (List.replicate ((R.ks.length : Nat) : Int).toNat [V.ref m14]).flatten)) m16 = some (.lst (List.replicate ((R.ks.length : Nat) : Int).toNat [V.ref m14]).flatten) := upd_same
    generalize (upd W15 m16 (.lst (List.replicate ((R.ks.length : Nat) : Int).toNat [V.ref m14]).flatten)) = W16 at v16 c16 ⊢
    refine ⟨(by show 1 ≤ sizeLine; decide), fun m17 hm17 => ?_⟩
    have v17 := Same.upd (o := .tup [.int 0]) hm17
    have c17 : (upd W16 m17 (.tup [.int 0])) m17 = some (.tup [.int 0]) := upd_same
    generalize (upd W16 m17 (.tup [.int 0])) = W17 at v17 c17 ⊢
    refine ⟨(by show 1 ≤ sizeLine; decide), fun m18 hm18 => ?_⟩
    have v18 := Same.upd (o := .lst [.ref m17]) hm18
    have c18 : (upd W17 m18 (.lst [.ref m17])) m18 = some (.lst [.ref m17]) := upd_same
    generalize (upd W17 m18 (.lst [.ref m17])) = W18 at v18 c18 ⊢
    refine ⟨_, rfl, m18, _, _, rfl, rfl, c18, by omega, by omega, (by show 1 * _ ≤ sizeLine; rw [Nat.one_mul]; exact Nat.le_of_lt (small1000' (by omega))), fun m19 hm19 => ?_⟩
    have v19 := Same.upd (o := .lst (List.replicate ((R.ks.length : Nat) : Int).toNat [V.ref m17]).flatten) hm19
    have c19 : (upd W18 m19 (.lst (List.replicate ((R.ks.length : Nat) : Int).toNat [V.ref m17]).flatten)) m19 = some (.lst (List.replicate ((R.ks.length : Nat) : Int).toNat [V.ref m17]).flatten) := upd_same
    generalize (upd W18 m19 (.lst (List.replicate ((R.ks.length : Nat) : Int).toNat [V.ref m17]).flatten)) = W19 at v19 c19 ⊢
    refine ⟨(by show 2 ≤ sizeLine; decide), fun m20 hm20 => ?_⟩
    have v20 := Same.upd (o := .lst [.ref m16, .ref m19]) hm20
    have c20 : (upd W19 m20 (.lst [.ref m16, .ref m19])) m20 = some (.lst [.ref m16, .ref m19]) := upd_same
    generalize (upd W19 m20 (.lst [.ref m16, .ref m19])) = W20 at v20 c20 ⊢
    have x13 := v14.trans (v15.trans (v16.trans (v17.trans (v18.trans (v19.trans v20)))))
    have d13 := x13 _ _ c13
    refine ⟨m13, m20, _, _, rfl, rfl, d13, c20, (by show 6 + 2 ≤ sizeLine; decide), fun m21 hm21 => ?_⟩
    have v21 := Same.upd (o := .lst ([.non, .ref m1, .ref m4, .ref m6, .ref m9, .ref m12] ++ [.ref m16, .ref m19])) hm21
    have c21 : (upd W20 m21 (.lst ([.non, .ref m1, .ref m4, .ref m6, .ref m9, .ref m12] ++ [.ref m16, .ref m19]))) m21 = some (.lst ([.non, .ref m1, .ref m4, .ref m6, .ref m9, .ref m12] ++ [.ref m16, .ref m19])) := upd_same
    generalize (upd W20 m21 (.lst ([.non, .ref m1, .ref m4, .ref m6, .ref m9, .ref m12] ++ [.ref m16, .ref m19]))) = W21 at v21 c21 ⊢
    have y19 := v20.trans v21
    have y18 := v19.trans y19
    have y17 := v18.trans y18
    have y16 := v17.trans y17
    have y15 := v16.trans y16
    have y14 := v15.trans y15
    have y13 := v14.trans y14
    have y12 := v13.trans y13
    have y11 := v12.trans y12
    have y10 := v11.trans y11
    have y9 := v10.trans y10
    have y8 := v9.trans y9
    have y7 := v8.trans y8
    have y6 := v7.trans y7
    have y5 := v6.trans y6
    have y4 := v5.trans y5
    have y3 := v4.trans y4
    have y2 := v3.trans y3
    have y1 := v2.trans y2
    have eW := v1.trans y1
    have repB : ∀ {l : Addr} {x : V}, W21 l = some (.lst (List.replicate ((R.ks.length : Nat) : Int).toNat [x]).flatten) → NdsB Z.K R.ks.length W21 x false → NBad Z.K W21 R.ks.length (.ref l) := fun {l x} h q => by
      have e : (List.replicate ((R.ks.length : Nat) : Int).toNat [x]).flatten = List.replicate R.ks.length x := by
        rw [show ((R.ks.length : Nat) : Int).toNat = R.ks.length by omega]
        generalize R.ks.length = n
        induction n with
        | zero => rfl
        | succ n ih => rw [List.replicate_succ, List.flatten_cons, ih, List.replicate_succ]; rfl
      rw [e] at h
      refine .row (bs := List.replicate R.ks.length false) h (by rw [List.length_replicate]) ⟨by rw [List.length_replicate, List.length_replicate], fun i v b h1 h2 => ?_⟩ ?_
      · rw [(List.mem_replicate.mp (List.mem_of_getElem? h1)).2, (List.mem_replicate.mp (List.mem_of_getElem? h2)).2]
        exact q
      · obtain ⟨n, hn⟩ : ∃ n, R.ks.length = n + 1 := ⟨R.ks.length - 1, by omega⟩
        rw [hn, List.replicate_succ]
        rfl
    have cut1 : (cutV rs (some 1) none).length ≠ R.ks.length := by
      rw [cutV_one, List.length_drop]
      omega
    have nbad : ∀ v ∈ ([.non, .ref m1, .ref m4, .ref m6, .ref m9, .ref m12] ++ [.ref m16, .ref m19] : List V), NBad Z.K W21 R.ks.length v := by
      intro v hv
      simp only [List.mem_append, List.mem_cons, List.not_mem_nil, or_false] at hv
      rcases hv with (rfl | rfl | rfl | rfl | rfl | rfl) | rfl | rfl
      · exact .odd (.base .non) (kit_ty (by decide +kernel))
      · exact .len (y1 _ _ c1) cut1
      · exact .len (y4 _ _ c4) (by rw [List.length_append]; simp; omega)
      · exact repB (y6 _ _ c6) (.odd (.base .non) (kit_ty (by decide +kernel)))
      · refine repB (y9 _ _ c9) (.bad (bs := [decide (0 ≤ ((R.ks.length : Nat) : Int) ∧ ((R.ks.length : Nat) : Int) < ((R.ks.length : Nat) : Int))]) (y7 _ _ c7) (by show 1 ≤ 1000; decide) (Al.cons (.int _) Al.nil) ?_)
        simp
      · have q : NdsB Z.K R.ks.length W21 (.ref m10) (decide ([0, 0] : List Int).Nodup) := .nds (ns := [0, 0]) (y10 _ _ c10) (by decide) (fun n hn => by
          have : n = 0 := by simpa using hn
          omega)
        exact repB (y12 _ _ c12) q
      · exact repB (y16 _ _ c16) (.bad (bs := [false]) (y14 _ _ c14) (by show 1 ≤ 1000; decide) (Al.cons (.odd ⟨_, .base (.bl true), .inl rfl⟩) Al.nil) rfl)
      · exact repB (y19 _ _ c19) (.odd (.base (.tup (y17 _ _ c17))) (kit_ty (by decide +kernel)))
    have gW : Grow T0 H W21 := gH1.trans (.of eW)
    have LW := L.gr gW
    refine ⟨m21, rfl, ⟨_, SqL.of c21⟩, ?_⟩
    refine for_list (K := Z.K) (a := m21) (xs := [.non, .ref m1, .ref m4, .ref m6, .ref m9, .ref m12] ++ [.ref m16, .ref m19]) (fun i σ H' => Grow T0 W21 H' ∧ ∃ o5 : Option V, σ = [some (.ref d), some (.ref ka), some (.ref kb), some (.ref kc), some (.int ((R.ks.length : Nat) : Int)), o5, some (.ref m13)]) ⟨Gr.refl _, _, rfl⟩ (fun i σ H' _ ⟨g, _⟩ => SqL.of (g.at c21)) ?_ ?_
    · rintro i y σ H' hy ⟨g, o5, rfl⟩
      refine ⟨_, rfl, _, rfl, _, y, .non, .inl "nexts", rfl, (gW.trans g).t hT, .n (LW.gr g) hG ((nbad y (List.mem_of_getElem? hy)).gr g), fun H'' g' => ⟨rfl, _, rfl, ?_⟩⟩
      exact iteF ⟨g.trans g', _, rfl⟩
    rintro σ H2 ⟨g2, o5', rfl⟩
    have gH2 := gW.trans g2
    -- wrong firsts
    refine ⟨(by show 0 ≤ sizeLine; decide), fun n1 hn1 => ?_⟩
    have w1 := Same.upd (o := .lst []) hn1
    have f1 : (upd H2 n1 (.lst [])) n1 = some (.lst []) := upd_same
    generalize (upd H2 n1 (.lst [])) = X1 at w1 f1 ⊢
    refine ⟨_, rfl, (by show 1 ≤ sizeLine; decide), fun n2 hn2 => ?_⟩
    have w2 := Same.upd (o := .lst [.int ((R.ks.length : Nat) : Int)]) hn2
    have f2 : (upd X1 n2 (.lst [.int ((R.ks.length : Nat) : Int)])) n2 = some (.lst [.int ((R.ks.length : Nat) : Int)]) := upd_same
    generalize (upd X1 n2 (.lst [.int ((R.ks.length : Nat) : Int)])) = X2 at w2 f2 ⊢
    refine ⟨(by show 2 ≤ sizeLine; decide), fun n3 hn3 => ?_⟩
    have w3 := Same.upd (o := .lst [.int 0, .int 0]) hn3
    have f3 : (upd X2 n3 (.lst [.int 0, .int 0])) n3 = some (.lst [.int 0, .int 0]) := upd_same
    generalize (upd X2 n3 (.lst [.int 0, .int 0])) = X3 at w3 f3 ⊢
    refine ⟨(by show 1 ≤ sizeLine; decide), fun n4 hn4 => ?_⟩
    have w4 := Same.upd (o := .lst [.bl true]) hn4
    have f4 : (upd X3 n4 (.lst [.bl true])) n4 = some (.lst [.bl true]) := upd_same
    generalize (upd X3 n4 (.lst [.bl true])) = X4 at w4 f4 ⊢
    refine ⟨(by show 1 ≤ sizeLine; decide), fun n5 hn5 => ?_⟩
    have w5 := Same.upd (o := .tup [.int 0]) hn5
    have f5 : (upd X4 n5 (.tup [.int 0])) n5 = some (.tup [.int 0]) := upd_same
    generalize (upd X4 n5 (.tup [.int 0])) = X5 at w5 f5 ⊢
    refine ⟨1, rfl, (by show 1 ≤ sizeLine; decide), fun n6 hn6 => ?_⟩
    have w6 := Same.upd (o := .lst [.int (-1)]) hn6
    have f6 : (upd X5 n6 (.lst [.int (-1)])) n6 = some (.lst [.int (-1)]) := upd_same
    generalize (upd X5 n6 (.lst [.int (-1)])) = X6 at w6 f6 ⊢
    refine ⟨(by show 1 ≤ sizeLine; decide), fun n7 hn7 => ?_⟩
    have w7 := Same.upd (o := .lst [.str "0"]) hn7
    have f7 : (upd X6 n7 (.lst [.str "0"])) n7 = some (.lst [.str "0"]) := upd_same
    generalize (upd X6 n7 (.lst [.str "0"])) = X7 at w7 f7 ⊢
    refine ⟨(by show 8 ≤ sizeLine; decide), fun n8 hn8 => ?_⟩
    have w8 := Same.upd (o := .lst [.non, .ref n1, .ref n2, .ref n3, .ref n4, .ref n5, .ref n6, .ref n7]) hn8
    have f8 : (upd X7 n8 (.lst [.non, .ref n1, .ref n2, .ref n3, .ref n4, .ref n5, .ref n6, .ref n7])) n8 = some (.lst [.non, .ref n1, .ref n2, .ref n3, .ref n4, .ref n5, .ref n6, .ref n7]) := upd_same
    generalize (upd X7 n8 (.lst [.non, .ref n1, .ref n2, .ref n3, .ref n4, .ref n5, .ref n6, .ref n7])) = X8 at w8 f8 ⊢
    have z7 := w8
    have z6 := w7.trans z7
    have z5 := w6.trans z6
    have z4 := w5.trans z5
    have z3 := w4.trans z4
    have z2 := w3.trans z3
    have z1 := w2.trans z2
    have eX := w1.trans z1
    have fbad : ∀ v ∈ ([.non, .ref n1, .ref n2, .ref n3, .ref n4, .ref n5, .ref n6, .ref n7] : List V), FBad Z.K X8 R.ks.length v := by
      intro v hv
      simp only [List.mem_cons, List.not_mem_nil, or_false] at hv
      rcases hv with rfl | rfl | rfl | rfl | rfl | rfl | rfl | rfl
      · exact .odd (.odd (.base .non) (kit_ty (by decide +kernel)))
      · exact .nil (z1 _ _ f1)
      · refine .odd (.bad (bs := [decide (0 ≤ ((R.ks.length : Nat) : Int) ∧ ((R.ks.length : Nat) : Int) < ((R.ks.length : Nat) : Int))]) (z2 _ _ f2) (by show 1 ≤ 1000; decide) (Al.cons (.int _) Al.nil) ?_)
        simp
      · have q : NdsB Z.K R.ks.length X8 (.ref n3) (decide ([0, 0] : List Int).Nodup) := .nds (ns := [0, 0]) (z3 _ _ f3) (by decide) (fun n hn => by
          have : n = 0 := by simpa using hn
          omega)
        exact .odd q
      · exact .odd (.bad (bs := [false]) (z4 _ _ f4) (by show 1 ≤ 1000; decide) (Al.cons (.odd ⟨_, .base (.bl true), .inl rfl⟩) Al.nil) rfl)
      · exact .odd (.odd (.base (.tup (z5 _ _ f5))) (kit_ty (by decide +kernel)))
      · refine .odd (.bad (bs := [decide (0 ≤ (-1 : Int) ∧ (-1 : Int) < ((R.ks.length : Nat) : Int))]) (z6 _ _ f6) (by show 1 ≤ 1000; decide) (Al.cons (.int _) Al.nil) ?_)
        simp
      · exact .odd (.bad (bs := [false]) (z7 _ _ f7) (by show 1 ≤ 1000; decide) (Al.cons (.odd ⟨_, .base (.str _), .inr (kit_ty (by decide +kernel))⟩) Al.nil) rfl)
    have gX : Grow T0 H X8 := gH2.trans (.of eX)
    have LX := L.gr gX
    refine ⟨n8, rfl, ⟨_, SqL.of f8⟩, ?_⟩
    refine for_list (K := Z.K) (a := n8) (xs := [.non, .ref n1, .ref n2, .ref n3, .ref n4, .ref n5, .ref n6, .ref n7]) (fun i σ H' => Grow T0 X8 H' ∧ ∃ o5 : Option V, σ = [some (.ref d), some (.ref ka), some (.ref kb), some (.ref kc), some (.int ((R.ks.length : Nat) : Int)), o5, some (.ref m13)]) ⟨Gr.refl _, _, rfl⟩ (fun i σ H' _ ⟨g, _⟩ => SqL.of (g.at f8)) ?_ ?_
    · rintro i y σ H' hy ⟨g, o5, rfl⟩
      refine ⟨_, rfl, _, rfl, _, rfl, _, _, y, .inl "firsts", rfl, (gX.trans g).t hT, .f (LX.gr g) hG ((fbad y (List.mem_of_getElem? hy)).gr g), fun H'' g' => ⟨rfl, _, rfl, ?_⟩⟩
      exact iteF ⟨g.trans g', _, rfl⟩
    rintro σ H3 ⟨g3, o5'', rfl⟩
    refine ⟨_, rfl, _, rfl, _, rfl, _, _, _, .inr R, rfl, (gX.trans g3).t hT, .good (LX.gr g3) hG, fun H'' g' => ⟨rfl, ?_⟩⟩
    exact k _ ((gX.trans g3).trans g')
end
end Ps

/-! k16: the law. -/
namespace Ps
open PySem PySem.Spec PyProof.Rows PySem.W L2 LamX

section
variable {T : List (Addr × Str)} {p q : Addr} {ms : List Int} {H H1 H2 : Hp}
theorem notp {x : Addr} {xs : List V} (hP : Pl H p q ms) (hx : H x = some (.lst xs)) (h : ∀ (r : Addr) (i : Int), xs ≠ [.ref r, .int i]) : x ≠ p := fun z => by
  obtain ⟨⟨i, hp⟩, _⟩ := hP
  rw [z, hp] at hx
  exact h q i (HO.lst.inj (Option.some.inj hx)).symm
theorem notp_ints {ns : List Int} (r : Addr) (i : Int) : ns.map V.int ≠ [.ref r, .int i] := fun z => by
  cases ns with
  | nil => cases z
  | cons n r => cases (List.cons.inj z).1
theorem notp_strs {ns : List Str} (r : Addr) (i : Int) : ns.map V.str ≠ [.ref r, .int i] := fun z => by
  cases ns with
  | nil => cases z
  | cons n r => cases (List.cons.inj z).1
theorem RwL.gp {a b c : Addr} {R : RwD} (g : Gp T p q ms H H1) (hP : Pl H p q ms) (L : RwL H a b c R) : RwL H1 a b c R := by
  obtain ⟨h1, ⟨rs, h2, h3⟩, h4⟩ := L
  refine ⟨g.at h1 (notp hP h1 notp_strs), ⟨rs, g.at h2 (notp hP h2 fun r i z => ?_), h3.imp fun v ns ⟨l, hv, hl⟩ => ⟨l, hv, g.at hl (notp hP hl notp_ints)⟩⟩, g.at h4 (notp hP h4 notp_ints)⟩
  subst z
  obtain ⟨ns, _, l, hl, _⟩ := h3.get (i := 1) rfl
  cases hl
theorem RwAt.gp {CR : Addr} {v : V} {R : RwD} (g : Gp T p q ms H H1) (hP : Pl H p q ms) (h : RwAt CR H v R) : RwAt CR H1 v R := by
  obtain ⟨x, dx, a, b, c, rfl, hx, L⟩ := h
  refine ⟨x, dx, a, b, c, rfl, g.at hx fun z => ?_, L.gp g hP⟩
  obtain ⟨⟨i, hp⟩, _⟩ := hP
  rw [z, hp] at hx
  cases hx
theorem LRow.gp {v : V} {R : RwD} (g : Gp T p q ms H H1) (hP : Pl H p q ms) (h : LRow H v R) : LRow H1 v R := by
  obtain ⟨d, a, b, c, rfl, hx, L⟩ := h
  refine ⟨d, a, b, c, rfl, g.at hx fun z => ?_, L.gp g hP⟩
  obtain ⟨⟨i, hp⟩, _⟩ := hP
  rw [z, hp] at hx
  cases hx
/-- the script is not the pool -/
theorem sq_gp {K : Frag} {a : Addr} {xs : List V} (hp : H p = none) (e : Same H H1) (g : Gp T p q ms H1 H2) (h : SqL K H a xs) : SqL K H2 a xs := by
  rcases h with (h | ⟨o, h⟩) | h
  · exact .inl (.inl (g.at (e _ _ h) (ne_of_none h hp)))
  · exact .inl (.inr ⟨o, g.at (e _ _ h) (ne_of_none h hp)⟩)
  · exact .inr h
end
/-- but these places, all stays -/
structure Up (S : Addr → Prop) (H H' : Hp) : Prop where
  k : ∀ b o, ¬ S b → H b = some o → H' b = some o
  t : ∀ T, Tabs T H → Tabs T H'
section
variable {S : Addr → Prop} {H H1 H2 : Hp}
theorem Up.trans (a : Up S H H1) (b : Up S H1 H2) : Up S H H2 := ⟨fun c o n h => b.k c o n (a.k c o n h), fun T h => b.t T (a.t T h)⟩
theorem Up.of (e : Same H H1) : Up S H H1 := ⟨fun c o _ h => e c o h, fun T h => h.ext e⟩
theorem Up.put {l : Addr} {xs : List V} {o : HO} (s : S l) (h : H l = some (.lst xs)) : Up S H (upd H l o) :=
  ⟨fun b u n e => by
    have hb : b ≠ l := fun z => n (by rw [z]; exact s)
    rw [upd_ne hb]; exact e, fun T t => tabs_put t h (fun _ z => by cases z) (fun _ _ z => by cases z)⟩
theorem Up.rwL {a b c : Addr} {R : RwD} (u : Up S H H1) (L : RwL H a b c R) (ha : ¬ S a) (hb : ¬ S b) (hc : ¬ S c) (hr : ∀ rs l, H b = some (.lst rs) → V.ref l ∈ rs → ¬ S l) : RwL H1 a b c R := by
  obtain ⟨h1, ⟨rs, h2, h3⟩, h4⟩ := L
  refine ⟨u.k _ _ ha h1, ⟨rs, u.k _ _ hb h2, h3.1, fun i v ns hv hn => ?_⟩, u.k _ _ hc h4⟩
  obtain ⟨l, rfl, hl⟩ := h3.2 i v ns hv hn
  exact ⟨l, rfl, u.k _ _ (hr rs l h2 (List.mem_of_getElem? hv)) hl⟩
end
theorem nodup_rev {ns : List Int} (h : ns.Nodup) : ns.reverse.Nodup := (List.reverse_perm ns).nodup_iff.mpr h
/-- an odd value: no node -/
structure OddN (K : Frag) (R : RwD) (H : Hp) (v : V) (d : PyData) : Prop where
  n : NoN K R H v
  dp : Dp K H v d
  rp : Rp d
  ok : PyData.strOk d.shown = true
theorem OddN.mono {K : Frag} {R : RwD} {H H' : Hp} {v : V} {d : PyData} (e : Same H H') (h : OddN K R H v d) : OddN K R H' v d :=
  ⟨by rcases h.n with n | n; exact .inl n; exact .inr (n.mono e), Dp.mono e h.dp, h.rp, h.ok⟩
theorem eqvAll_strs : ∀ xs ys : List Str, PyData.eqvAll (xs.map PyData.str) (ys.map PyData.str) = decide (xs = ys)
  | [], [] => rfl
  | [], _ :: _ => by simp [PyData.eqvAll]
  | _ :: _, [] => by simp [PyData.eqvAll]
  | x :: xs, y :: ys => by
    have := eqvAll_strs xs ys
    simp only [List.map_cons, PyData.eqvAll, PyData.eqv, this, List.cons.injEq, Bool.decide_and]
    congr 1
theorem eqvAll_ints : ∀ xs ys : List Int, PyData.eqvAll (xs.map PyData.int) (ys.map PyData.int) = decide (xs = ys)
  | [], [] => rfl
  | [], _ :: _ => by simp [PyData.eqvAll]
  | _ :: _, [] => by simp [PyData.eqvAll]
  | x :: xs, y :: ys => by
    have := eqvAll_ints xs ys
    simp only [List.map_cons, PyData.eqvAll, PyData.eqv, this, List.cons.injEq, Bool.decide_and]
    congr 1
theorem eqv_rows (R R' : RwD) : PyData.eqv (RwDt R) (RwDt R') = (decide (R.ks = R'.ks) && (PyData.eqvAll (nxD R.nx) (nxD R'.nx) && decide (R.fs = R'.fs))) := by
  unfold RwDt
  simp only [PyData.eqv, PyData.eqvAll, eqvAll_strs, eqvAll_ints, Bool.and_true]
theorem Same.upd2 {H : Hp} {p : Addr} {o u : HO} (h : H p = none) : Same H (L2.upd (L2.upd H p o) p u) := fun b w e => by
  have hb := ne_of_none e h
  rw [upd_ne hb, upd_ne hb]
  exact e
theorem eqv_otherKF (R : RwD) (q : List Str × List Int) : PyData.eqv (RwDt R) (RwDt ⟨q.1, R.nx, q.2⟩) = (PyData.eqv (.list (q.1.map PyData.str)) (.list (R.ks.map PyData.str)) && PyData.eqv (.list (q.2.map PyData.int)) (.list (R.fs.map PyData.int))) := by
  rw [eqv_rows]
  simp only [PyData.eqv, eqvAll_strs, eqvAll_ints]
  have h : PyData.eqvAll (nxD R.nx) (nxD R.nx) = true := by
    have := eqv_same (nx_shaped R.nx)
    simpa only [PyData.eqv] using this
  rw [h, Bool.true_and]
  congr 1
  · exact decide_eq_decide.mpr eq_comm
  · exact decide_eq_decide.mpr eq_comm
theorem eqv_otherN (R : RwD) (nx : List (List Int)) : PyData.eqv (RwDt R) (RwDt ⟨R.ks, nx, R.fs⟩) = PyData.eqv (.list (nxD R.nx)) (.list (nxD nx)) := by
  rw [eqv_rows]
  simp only [PyData.eqv, decide_true, Bool.true_and, Bool.and_true]
/-- a pair of kinds and firsts -/
def PrK (H : Hp) (v : V) (q : List Str × List Int) : Prop := ∃ t kk ff, v = .ref t ∧ H t = some (.tup [.ref kk, .ref ff]) ∧ H kk = some (.lst (q.1.map V.str)) ∧ H ff = some (.lst (q.2.map V.int))
theorem PrK.gr {T : List (Addr × Str)} {H H' : Hp} {v : V} {q : List Str × List Int} (g : Gr T none H H') (h : PrK H v q) : PrK H' v q := by
  obtain ⟨t, kk, ff, rfl, h1, h2, h3⟩ := h
  exact ⟨t, kk, ff, rfl, g.at h1, g.at h2, g.at h3⟩
def revR (R : RwD) : RwD := ⟨R.ks, R.nx.map List.reverse, R.fs.reverse⟩
theorem srtI_rev (ns : List Int) : srtI ns.reverse = srtI ns :=
  (((srtI_perm _).trans (List.reverse_perm ns)).trans (srtI_perm ns).symm).eq_of_pairwise (fun a b _ _ h1 h2 => by omega) (srtI_sorted _) (srtI_sorted _)
theorem revR_srt {R : RwD} : (revR R).srt = R.srt := by
  unfold RwD.srt revR
  rw [srtI_rev, List.map_map]
  congr 1
  exact List.map_congr_left fun ns _ => srtI_rev ns
theorem revR_g {R : RwD} (g : RwG R) : RwG (revR R) := by
  refine ⟨g.k, by show (R.nx.map List.reverse).length = _; rw [List.length_map]; exact g.nl, fun ns hn => ?_, fun n hn => g.fx n (List.mem_reverse.mp hn), nodup_rev g.fd, fun z => g.f0 (List.reverse_eq_nil_iff.mp z), fun ns hn => ?_, by show R.fs.reverse.length ≤ _; rw [List.length_reverse]; exact g.fz⟩
  · obtain ⟨ms, hm, rfl⟩ := List.mem_map.mp hn
    exact ⟨fun n h => (g.nx ms hm).1 n (List.mem_reverse.mp h), nodup_rev (g.nx ms hm).2⟩
  · obtain ⟨ms, hm, rfl⟩ := List.mem_map.mp hn
    rw [List.length_reverse]
    exact g.nz ms hm
def spLawT (K : Frag) (T : List (Addr × Str)) : Sp := fun vs H Q _ => ∃ (a : Addr) (ns : List Int), vs = [.ref a] ∧ SqL K H a (ns.map V.int) ∧ ns.length ≤ 63 ∧ Tabs T H ∧ ∀ H', Q (.bl true) H'
section
variable {Z : Cz} {f CR : Addr} {fd : FuncData} {T0 : List (Addr × Str)}
theorem ok_law (F : Fun Z.K "law" "law" s_lw_law f fd) (T : DrT Z) (B : RwB Z) (C : RwC Z CR) (mr : Z.mg "repr" = none) (kR : ∀ t ∈ ([.type "int", .type "str", .type "NoneType", .type "list", .type "tuple"] : List Value), kitOne Z.K t (.ref CR) = some false) (c_req : CalS Z CX0 2 CR "__eq__" ["self", "other"] (spRwEq Z.K CR)) (c_Rows : CalC Z CX0 3 CR "Rows" ["self", "kinds", "nexts", "firsts"] [] (spRows0 T0 CR))
    (c_lw_opened : Cal Z CX0 3 "_law_opened" ["_law_script", "_law_k", "_law_many"] [] (spOpened Z.K)) (c_lw_draw : Cal Z CX0 1 "_law_draw" ["_law_pool_here", "_law_many"] [] (spDr T0))
    (c_lw_words : Cal Z CX0 2 "_law_words" ["_law_pool_here", "_law_many"] [] (spWords T0)) (c_lw_prices : Cal Z CX0 2 "_law_prices" ["_law_pool_here", "_law_words_here"] [] (spPrices Z.K T0)) (c_lw_rows : Cal Z CX0 3 "_law_rows" ["_law_pool_here", "_law_prices_here", "_law_most"] [] (spLRows Z.K T0))
    (c_firsts : CalM Z CX0 1 CR "firsts" ["self"] [] (spRFirsts CR)) (c_lw_right : Cal Z CX0 5 "_law_right" ["_law_made", "_law_rows_here"] [] (spRight CR T0)) (c_lw_made_rows : Cal Z CX0 5 "_law_made_rows" ["_law_rows_here"] [] (spMadeR T0 CR)) (c_lw_refused : Cal Z CX0 6 "_law_refused" ["_law_rows_here"] [] (spRefused T0))
    (c_no_node : CalG Z CX0 5 "_law_no_node" ["_law_made", "_law_odd", "_law_way"] (spNoNode Z.K CR)) :
    FnG Z.P Z.w Z.K Z.mg Z.base CX0 8 f fd ["_law_script"] (spLawT Z.K T0) := by
  refine Fun.okG F sc_lw_law (fun vs H Q E h => ?_) (fun cdv A outer s H vs Q E hr hgd h => ?_)
  · obtain ⟨a, ns, rfl, _⟩ := h
    rfl
  · obtain ⟨a, ns, rfl, hS, h63, hT, k⟩ := h
    refine ⟨_, PSs.nox ((pss_cons (ps_for PassesOwn.never rfl (pi_range1 (by rfl) T.range (pa_cons (pe_callB (call_max2 rfl) (by rfl) T.max (by decide +kernel) (pa_cons pe_int (pa_cons (pe_callB (call_min2 rfl) (by rfl) T.min (by decide +kernel) (pa_cons (pe_callB call_len_seq (by rfl) T.len PySem.boot_len (pa_cons (pv 0) pa_nil)) (pa_cons pe_int pa_nil))) pa_nil))) pa_nil)) (pg_name (i := 1) sc_lw_law.nd rfl (Or.inl rfl))
      (pss_cons (ps_set (i := 2) sc_lw_law.nd rfl (Or.inl rfl) (pe_cal c_lw_opened (hr.mono (by decide)) (by rfl) pass0 (pa_cons (pv 0) (pa_cons (pv 1) (pa_cons pe_int pa_nil)))))
        (pss_cons (ps_set (i := 3) sc_lw_law.nd rfl (Or.inl rfl) (pe_cal c_lw_prices (hr.mono (by decide)) (by rfl) pass0 (pa_cons (pv 2) (pa_cons (pe_cal c_lw_words (hr.mono (by decide)) (by rfl) pass0 (pa_cons (pv 2) (pa_cons (pe_op op_add pe_int (pe_cal c_lw_draw (hr.mono (by decide)) (by rfl) pass0 (pa_cons (pv 2) (pa_cons pe_int pa_nil)))) pa_nil))) pa_nil))))
        (pss_cons (ps_par (i := 4) (j := 5) (by rfl) sc_lw_law.nd rfl rfl (by decide) rfl rfl (pa_cons (pe_cal c_lw_rows (hr.mono (by decide)) (by rfl) pass0 (pa_cons (pv 2) (pa_cons (pv 3) (pa_cons pe_int pa_nil)))) (pa_cons pe_int pa_nil)) (by rfl))
        (pss_cons (ps_set (i := 5) sc_lw_law.nd rfl (Or.inl rfl) (pe_callB call_len_seq (by rfl) T.len PySem.boot_len (pa_cons (pe_dget (hu_of hr) (pv 4) pe_str (fun _ _ => rfl)) pa_nil)))
        (pss_cons (ps_par (i := 6) (j := 7) (by rfl) sc_lw_law.nd rfl rfl (by decide) rfl rfl (pa_cons (pe_lc (own := [("_law_row", 8)]) (g := gName 8) (tt := tYes) (by rfl) sc_lw_law.nd (pi_list (pe_dget (hu_of hr) (pv 4) pe_str (fun _ _ => rfl))) (blkOk_by (own := [("_law_row", 8)]) (N := ["_law_script", "_law_k", "_law_pool_here", "_law_prices_here", "_law_rows_here", "_law_many", "_law_nexts", "_law_firsts", "_law_row", "_law_kinds", "_law_made", "_law_told_list", "_law_odd", "_law_way", "_law_other"]) (sc := defScope s_lw_law) (by decide +kernel)) (fun _ _ _ _ _ => (pg_name (i := 8) sc_lw_law.nd rfl (Or.inl rfl))) (fun _ _ _ _ _ => pts_nil) (fun _ _ _ _ _ => (show PE _ _ (tRevL Z.K _) from pe_revL (pv 8)))) (pa_cons (pe_revL (pe_dget (hu_of hr) (pv 4) pe_str (fun _ _ => rfl))) pa_nil)) (by rfl))
        (pss_cons (ps_set (i := 9) sc_lw_law.nd rfl (Or.inl rfl) (pe_callTy call_list_of (by rfl) B.list (by decide +kernel) (pa_cons (pe_dget (hu_of hr) (pv 4) pe_str (fun _ _ => rfl)) pa_nil)))
        (pss_cons (ps_set (i := 10) sc_lw_law.nd rfl (Or.inr rfl) (pe_calC c_Rows (hr.mono (by decide)) (by rfl) pass0 (pa_cons (pv 9) (pa_cons (pv 6) (pa_cons (pv 7) pa_nil)))))
        (pss_cons (ps_asg pe_str (pg_sub (pv 9) pe_int set_list))
        (pss_cons (ps_expr (pe_bm PySem.F.plainAttrs_list PySem.F.slot_list_append PySem.F.type_list_append mt_append (pe_ix ix_list (pv 6) pe_int (fun _ _ => rfl)) (pa_cons pe_int pa_nil)))
        (pss_cons (ps_expr (pe_bm PySem.F.plainAttrs_list PySem.F.slot_list_append PySem.F.type_list_append mt_append (pv 6) (pa_cons (pe_lst (pa_cons pe_int pa_nil)) pa_nil)))
        (pss_cons (ps_expr (pe_bm PySem.F.plainAttrs_list PySem.F.slot_list_append PySem.F.type_list_append mt_append (pv 7) (pa_cons pe_int pa_nil)))
        (pss_cons (ps_set (i := 11) sc_lw_law.nd rfl (Or.inl rfl) (pe_calM0 c_firsts (hr.mono (by decide)) pass0 (pv 10)))
        (pss_cons (ps_expr (pe_bm PySem.F.plainAttrs_list PySem.F.slot_list_append PySem.F.type_list_append mt_append (pv 11) (pa_cons pe_int pa_nil)))
        (pss_cons (ps_if (PW.pt (pw_or (pt_not (pt_val (pe_cal c_lw_right (hr.mono (by decide)) (by rfl) pass0 (pa_cons (pv 10) (pa_cons (pv 4) pa_nil))))) (pw_or (pt_not (pt_cmpR (op_cmp (op := .Eq) c_req (hr.mono (by decide)) pass0) (pv 10) (pe_cal c_lw_made_rows (hr.mono (by decide)) (by rfl) pass0 (pa_cons (pv 4) pa_nil)) (nomark _))) (pw_or (pt_cmpR (op_cmp (op := .Eq) c_req (hr.mono (by decide)) pass0) (pv 10) pe_int (nomark _)) (pw_or1 (pt_not (pt_val (pe_cal c_lw_refused (hr.mono (by decide)) (by rfl) pass0 (pa_cons (pv 4) pa_nil)))))))))
        (pss_one (ps_ret pe_bl))
        pss_nil)
        (pss_cons (ps_for PassesOwn.never rfl (pi_list (pe_lst (pa_cons pe_non (pa_cons (pe_un un_neg pe_int) (pa_cons (pv 5) (pa_cons pe_bl (pa_cons pe_str (pa_cons (pe_lst (pa_cons pe_int pa_nil)) pa_nil)))))))) (pg_name (i := 12) sc_lw_law.nd rfl (Or.inr rfl))
        (pss_one (ps_if (pt_cmpR (op_neD hr.units) (pe_lc (own := [("_law_way", 13)]) (g := gName 13) (tt := tYes) (by rfl) sc_lw_law.nd (pi_range1 (by rfl) T.range (pa_cons pe_int pa_nil)) (blkOk_by (own := [("_law_way", 13)]) (N := ["_law_script", "_law_k", "_law_pool_here", "_law_prices_here", "_law_rows_here", "_law_many", "_law_nexts", "_law_firsts", "_law_row", "_law_kinds", "_law_made", "_law_told_list", "_law_odd", "_law_way", "_law_other"]) (sc := defScope s_lw_law) (by decide +kernel)) (fun _ _ _ _ _ => (pg_name (i := 13) sc_lw_law.nd rfl (Or.inl rfl))) (fun _ _ _ _ _ => pts_nil) (fun _ _ _ _ _ => (pe_calG c_no_node (hr.mono (by decide)) hgd (by rfl) pass0 (pa_cons (pv 10) (pa_cons (pv 12) (pa_cons (pv 13) pa_nil)))))) (pe_op op_rep (pe_lst (pa_cons (pe_callB (show CallR _ _ (rRepr Z.K) from call_repr hgd hr.units) (by rfl) mr (by decide +kernel) (pa_cons (pv 12) pa_nil)) pa_nil)) pe_int) (nomark _))
          (pss_one (ps_ret pe_bl))
          pss_nil)))
        (pss_cons (ps_for PassesOwn.never rfl (pi_list (pe_lst (pa_cons (pe_tup (pa_cons (pe_op op_cat (pe_lst (pa_cons pe_str pa_nil)) (pe_slice sl_list (pe_dget (hu_of hr) (pv 4) pe_str (fun _ _ => rfl)) (po_some pe_int) po_none)) (pa_cons (pe_dget (hu_of hr) (pv 4) pe_str (fun _ _ => rfl)) pa_nil))) (pa_cons (pe_tup (pa_cons (pe_dget (hu_of hr) (pv 4) pe_str (fun _ _ => rfl)) (pa_cons (pe_lst (pa_cons (pe_op op_sub (pv 5) pe_int) pa_nil)) pa_nil))) pa_nil)))) (pg_tup (by rfl) (pgs_cons (pg_name (i := 9) sc_lw_law.nd rfl (Or.inl rfl)) (pgs_cons (pg_name (i := 7) sc_lw_law.nd rfl (Or.inl rfl)) pgs_nil)))
        (pss_cons (ps_set (i := 14) sc_lw_law.nd rfl (Or.inl rfl) (pe_disp (pps_cons pe_str (pv 9) (pps_cons pe_str (pe_dget (hu_of hr) (pv 4) pe_str (fun _ _ => rfl)) (pps_cons pe_str (pv 7) pps_nil))) (by rfl) (by rfl) (fun z => by cases z) (by decide)))
          (pss_one (ps_if (pt_cmpR op_ne (pe_cmpR (op_cmp (op := .Eq) c_req (hr.mono (by decide)) pass0) (pv 10) (pe_cal c_lw_made_rows (hr.mono (by decide)) (by rfl) pass0 (pa_cons (pv 14) pa_nil)) (nomark _)) (pe_and (pe_cmpR (op_eqD hr.units) (pv 9) (pe_dget (hu_of hr) (pv 4) pe_str (fun _ _ => rfl)) (nomark _)) (pe_one (pe_cmpR (op_eqD hr.units) (pv 7) (pe_dget (hu_of hr) (pv 4) pe_str (fun _ _ => rfl)) (nomark _)))) (nomark _))
          (pss_one (ps_ret pe_bl))
          pss_nil))))
        (pss_cons (ps_set (i := 14) sc_lw_law.nd rfl (Or.inl rfl) (pe_disp (pps_cons pe_str (pe_dget (hu_of hr) (pv 4) pe_str (fun _ _ => rfl)) (pps_cons pe_str (pe_op op_rep (pe_lst (pa_cons (pe_lst pa_nil) pa_nil)) (pv 5)) (pps_cons pe_str (pe_dget (hu_of hr) (pv 4) pe_str (fun _ _ => rfl)) pps_nil))) (by rfl) (by rfl) (fun z => by cases z) (by decide)))
        (pss_one (ps_if (pt_cmpR op_ne (pe_cmpR (op_cmp (op := .Eq) c_req (hr.mono (by decide)) pass0) (pv 10) (pe_cal c_lw_made_rows (hr.mono (by decide)) (by rfl) pass0 (pa_cons (pv 14) pa_nil)) (nomark _)) (pe_cmpR (op_eqD hr.units) (pe_dget (hu_of hr) (pv 4) pe_str (fun _ _ => rfl)) (pe_dget (hu_of hr) (pv 14) pe_str (fun _ _ => rfl)) (nomark _)) (nomark _))
        (pss_one (ps_ret pe_bl))
        pss_nil))))))))))))))))))))
      (pss_one (ps_ret pe_bl)))), ?_⟩
    obtain ⟨n6, hn6, hn6'⟩ : ∃ n6 : Nat, (if (if (6 : Int) < ((ns.map V.int).length : Nat) then (6 : Int) else ((ns.map V.int).length : Nat)) > 1 then (if (6 : Int) < ((ns.map V.int).length : Nat) then (6 : Int) else ((ns.map V.int).length : Nat)) else 1) = (n6 : Int) ∧ (n6 ≤ ns.length ∨ (ns = [] ∧ n6 = 1)) ∧ n6 ≤ 6 := by
      rw [List.length_map]
      cases ns with
      | nil => exact ⟨1, by simp, .inr ⟨rfl, rfl⟩, by decide⟩
      | cons x r =>
        by_cases h : (6 : Int) < ((x :: r).length : Nat)
        · rw [if_pos h]
          exact ⟨6, by simp, .inl (by omega), by decide⟩
        · rw [if_neg h]
          refine ⟨(x :: r).length, ?_, .inl (Nat.le_refl _), by omega⟩
          by_cases h1 : (((x :: r).length : Nat) : Int) > 1
          · rw [if_pos h1]
          · rw [if_neg h1]
            have : (x :: r).length ≥ 1 := by simp
            omega
    refine ⟨_, rfl, a, _, rfl, .inl hS, _, _, rfl, _, _, rfl, _, rfl, ?_⟩
    rw [hn6]
    refine ⟨by omega, by omega, ?_⟩
    refine for_range (fun i σ H' => Tabs T0 H' ∧ SqL Z.K H' a (ns.map V.int) ∧ ∃ o1 o2 o3 o4 o5 o6 o7 o9 o10 o11 o12 o14 : Option V, σ = [some (.ref a), o1, o2, o3, o4, o5, o6, o7, none, o9, o10, o11, o12, none, o14]) ⟨hT, hS, none, none, none, none, none, none, none, none, none, none, none, none, rfl⟩ ?_ (fun σ H' _ => k H')
    rintro i σ H1 hi ⟨hT1, hS1, o1, o2, o3, o4, o5, o6, o7, o9, o10, o11, o12, o14, rfl⟩
    have hi' : i < n6 := by omega
    have ei : (0 : Int) + ((i : Nat) : Int) = ((i : Nat) : Int) := by omega
    -- the pool
    refine ⟨_, rfl, _, rfl, a, ns, i, 130, ?_, hS1, ?_, by omega, by decide, by decide, fun p q H2 ms e2 hp hq hPo => ?_⟩
    · show [V.ref a, V.int (0 + ((i : Nat) : Int)), V.int 130] = _
      rw [ei]
    · rcases hn6' with ⟨h | ⟨h, h1⟩, _⟩
      · exact .inl (by omega)
      · exact .inr ⟨h, by omega⟩
    have hP2 : Pl H2 p q ms := .of hPo
    have hT2 : Tabs T0 H2 := hT1.ext e2
    have sq : ∀ {H'}, Gp T0 p q ms H2 H' → SqL Z.K H' a (ns.map V.int) := fun g => sq_gp hp e2 g hS1
    -- prices
    refine ⟨_, rfl, _, rfl, _, rfl, p, q, ms, 3, rfl, hP2, by decide, fun r H3 r0 r1 g3 => ?_⟩
    refine ⟨_, _, rfl, rfl, p, q, ms, _, rfl, g3.pl hP2, by omega, by omega, fun ws l H4 hW g4 hl hl4 => ?_⟩
    have g24 := g3.trans g4
    have hP4 := g24.pl hP2
    refine ⟨p, q, ms, l, ws, rfl, hP4, hl4, notp hP4 hl4 notp_strs, hW, fun Pr vp H5 hPG _ g5 hPr => ?_⟩
    have hP5 := g5.pl hP4
    have g25 := g24.trans g5
    -- rows
    refine ⟨_, rfl, _, rfl, p, q, ms, vp, Pr, 8, rfl, hP5, g25.g.t hT2, hPr, hPG, by decide, by decide, fun R vr H6 hU _ hn g6 hLR => ?_⟩
    have hP6 := g6.pl hP5
    have g26 := g25.trans g6
    have hGR := hU.g
    obtain ⟨d, ka, kb, kc, rfl, hd, L6⟩ := id hLR
    refine ⟨_, _, rfl, ?_⟩
    refine ⟨_, rfl, d, _, rfl, .inl ⟨_, .inr "kinds", .inl hd, rfl, rfl⟩, ka, _, rfl, .inl (SqL.of L6.ks), ?_⟩
    rw [List.length_map]
    obtain ⟨rs, hb6, al6⟩ := L6.nx
    -- the nexts and firsts, turned
    refine ⟨_, rfl, d, _, rfl, .inl ⟨_, .inr "nexts", .inl hd, rfl, rfl⟩, kb, rfl, ⟨_, SqL.of hb6⟩, fun D hD => ?_⟩
    have hk8 := hGR.k.l8
    have hk1 := hGR.k.l1
    refine lcR hr_same (walk_list (K := Z.K) (a := kb) (xs := rs)) yat (bs := R.nx) (fun y ns H' => ∃ l, y = V.ref l ∧ l ≠ D ∧ H6 l = none ∧ H' l = some (.lst (ns.reverse.map V.int))) al6.1.symm (by have := hGR.nl; have := al6.1; omega) hD trivial (fun H2 e2 => SqL.of (e2 _ _ hb6)) ?_ ?_ ?_ ?_
    · rintro y ns H2 H3 ⟨l, rfl, hl, hn, h⟩ e
      exact ⟨l, rfl, hl, hn, e _ _ h⟩
    · rintro y ns H2 xs zs ⟨l, rfl, hl, hn, h⟩ _
      exact ⟨l, rfl, hl, hn, by rw [upd_ne hl]; exact h⟩
    · rintro j y n2 G2 acc Qe hy hns e2 hD2 kk
      obtain ⟨l, rfl, hl⟩ := al6.2 j y n2 hy hns
      refine ⟨_, rfl, l, _, rfl, SqL.of (e2 _ _ hl), fun l2 hl2 => kk _ _ (Same.upd hl2) ⟨l2, rfl, (ne_of_none hD2 hl2).symm, e2.free hl2, ?_⟩⟩
      rw [upd_same, ← List.map_reverse]
    rintro H7 ys e7 hD7 al7
    have hd7 := e7 _ _ hd
    have hf7 := e7 _ _ L6.fs
    refine ⟨_, rfl, d, _, rfl, .inl ⟨_, .inr "firsts", .inl hd7, rfl, rfl⟩, kc, _, rfl, SqL.of hf7, fun lf hlf => ?_⟩
    have u8 := Same.upd (o := .lst (R.fs.map V.int).reverse) hlf
    have e68 := e7.trans u8
    have hlf8 : (upd H7 lf (.lst (R.fs.map V.int).reverse)) lf = some (.lst (R.fs.reverse.map V.int)) := by rw [upd_same, ← List.map_reverse]
    have hlf6 := e7.free hlf
    generalize (upd H7 lf (.lst (R.fs.map V.int).reverse)) = H8 at u8 e68 hlf8 ⊢
    refine ⟨_, _, rfl, ?_⟩
    refine ⟨_, rfl, d, _, rfl, .inl ⟨_, .inr "kinds", .inl (e68 _ _ hd), rfl, rfl⟩, ka, _, rfl, .inl (SqL.of (e68 _ _ L6.ks)), fun lk hlk => ?_⟩
    have u9 := Same.upd (o := .lst (R.ks.map V.str)) hlk
    have hlk9 : (upd H8 lk (.lst (R.ks.map V.str))) lk = some (.lst (R.ks.map V.str)) := upd_same
    have hlk6 := e68.free hlk
    generalize (upd H8 lk (.lst (R.ks.map V.str))) = H9 at u9 hlk9 ⊢
    have e69 := e68.trans u9
    have e79 := u8.trans u9
    refine ⟨_, rfl, _, rfl, _, rfl, fun x dx hx hdx hne => ?_⟩
    have n : (upd H9 dx (.own x)) x = none := by rw [upd_ne hne.symm]; exact hx
    have s9 : Same H9 (upd (upd H9 dx (.own x)) x (.ins CR dx [])) := (Same.upd hdx).trans (Same.upd n)
    have aly : Al (IsInts H9) ys (revR R).nx := by
      refine ⟨by rw [al7.1]; exact (List.length_map _).symm, fun j y n2 hy hn => ?_⟩
      obtain ⟨ms', hm, rfl⟩ := List.getElem?_map .. ▸ hn |> Option.map_eq_some_iff.mp
      obtain ⟨l, rfl, _, _, hl⟩ := al7.2 j y ms' hy hm
      exact ⟨l, rfl, e79 _ _ hl⟩
    have L9 : RwL H9 lk D lf (revR R) := ⟨hlk9, ⟨ys, e79 _ _ hD7, aly⟩, u9 _ _ hlf8⟩
    refine ⟨x, dx, lk, D, lf, revR R, rfl, upd_same, (g26.g.t hT2).ext (e69.trans s9), L9.mono s9, revR_g hGR, fun H10 a' b' c' g10 hx10 L10 N10 => ⟨rfl, ?_⟩⟩
    rw [revR_srt, hU.srt] at L10
    have g910 : Gr T0 none H9 H10 := .made hx hdx hne g10
    -- the given lists change
    have nS : ∀ {b o}, H9 b = some o → H9 b ≠ none := fun h z => by rw [h] at z; cases z
    have hlk10 := g910.at hlk9
    have hlf10 := g910.at (u9 _ _ hlf8)
    have hD10 := g910.at (e79 _ _ hD7)
    refine ⟨_, rfl, lk, _, 0, 0, rfl, rfl, hlk10, ?_, ?_⟩
    · rw [List.length_map]
      show (if (0 : Int) ≤ 0 then (if (0 : Int) < (R.ks.length : Nat) then some (0 : Int).toNat else none) else _) = some 0
      rw [if_pos (by decide), if_pos (by omega)]
      rfl
    obtain ⟨n0, hn0⟩ : ∃ n0, R.nx[0]? = some n0 := ⟨R.nx[0]'(by have := hGR.nl; omega), List.getElem?_eq_getElem _⟩
    obtain ⟨y0, hy0⟩ : ∃ y0, ys[0]? = some y0 := ⟨ys[0]'(by rw [al7.1]; have := hGR.nl; omega), List.getElem?_eq_getElem _⟩
    obtain ⟨l0, rfl, hl0D, hl06, hl07⟩ := al7.2 0 y0 n0 hy0 hn0
    have hl09 := e79 _ _ hl07
    let S : Addr → Prop := fun b => H6 b = none ∧ H9 b ≠ none
    have Sk : S lk := ⟨hlk6, nS hlk9⟩
    have SD : S D := ⟨hD, nS (e79 _ _ hD7)⟩
    have Sf : S lf := ⟨hlf6, nS (u9 _ _ hlf8)⟩
    have S0 : S l0 := ⟨hl06, nS hl09⟩
    have hl010 := g910.at hl09
    have nkD : D ≠ lk := ne_of_none (u8 _ _ hD7) hlk
    have nkf : lf ≠ lk := ne_of_none hlf8 hlk
    have nk0 : l0 ≠ lk := ne_of_none (u8 _ _ hl07) hlk
    have nfD : D ≠ lf := ne_of_none hD7 hlf
    have nf0 : l0 ≠ lf := ne_of_none hl07 hlf
    have v11 : Up S H10 (upd H10 lk (.lst ((R.ks.map V.str).set 0 (.str "zz")))) := .put Sk hlk10
    have hD11 : (upd H10 lk (.lst ((R.ks.map V.str).set 0 (.str "zz")))) D = some (.lst ys) := by rw [upd_ne nkD]; exact hD10
    have hl011 : (upd H10 lk (.lst ((R.ks.map V.str).set 0 (.str "zz")))) l0 = some (.lst (n0.reverse.map V.int)) := by rw [upd_ne nk0]; exact hl010
    have hlf11 : (upd H10 lk (.lst ((R.ks.map V.str).set 0 (.str "zz")))) lf = some (.lst (R.fs.reverse.map V.int)) := by rw [upd_ne nkf]; exact hlf10
    show tSeq _ _ _ _ _
    generalize (upd H10 lk (.lst ((R.ks.map V.str).set 0 (.str "zz")))) = H11 at v11 hD11 hl011 hlf11 ⊢
    have hn08 := hU.n8 n0 (List.mem_of_getElem? hn0)
    refine ⟨_, rfl, D, _, 0, .ref l0, rfl, rfl, SqL.of hD11, atI_nat (j := 0) hy0, .inl ⟨rfl, _, SqL.of hl011⟩, l0, _, _, rfl, rfl, hl011, ?_, ?_⟩
    · rw [List.length_map, List.length_reverse]
      exact small1000' (by omega)
    have v12 : Up S H11 (upd H11 l0 (.lst (n0.reverse.map V.int ++ [.int 76]))) := .put S0 hl011
    have hD12 : (upd H11 l0 (.lst (n0.reverse.map V.int ++ [.int 76]))) D = some (.lst ys) := by rw [upd_ne hl0D.symm]; exact hD11
    have hlf12 : (upd H11 l0 (.lst (n0.reverse.map V.int ++ [.int 76]))) lf = some (.lst (R.fs.reverse.map V.int)) := by rw [upd_ne nf0.symm]; exact hlf11
    show tSeq _ _ _ _ _
    generalize (upd H11 l0 (.lst (n0.reverse.map V.int ++ [.int 76]))) = H12 at v12 hD12 hlf12 ⊢
    have hysl : ys.length = R.ks.length := by rw [al7.1]; exact hGR.nl
    refine ⟨_, rfl, .inl ⟨rfl, _, SqL.of hD12⟩, (by show 1 ≤ sizeLine; decide), fun l7 hl7 => ⟨D, _, _, rfl, rfl, Same.upd hl7 _ _ hD12, small1000' (by omega), ?_⟩⟩
    have v13 : Up S H12 (upd (upd H12 l7 (.lst [.int 77])) D (.lst (ys ++ [.ref l7]))) := .trans (.of (Same.upd hl7)) (.put SD (Same.upd hl7 _ _ hD12))
    have hlf13 : (upd (upd H12 l7 (.lst [.int 77])) D (.lst (ys ++ [.ref l7]))) lf = some (.lst (R.fs.reverse.map V.int)) := by rw [upd_ne nfD.symm]; exact Same.upd hl7 _ _ hlf12
    show tSeq _ _ _ _ _
    generalize (upd (upd H12 l7 (.lst [.int 77])) D (.lst (ys ++ [.ref l7]))) = H13 at v13 hlf13 ⊢
    refine ⟨_, rfl, .inl ⟨rfl, _, SqL.of hlf13⟩, lf, _, _, rfl, rfl, hlf13, ?_, ?_⟩
    · rw [List.length_map, List.length_reverse]
      have := hU.f8
      exact small1000' (by omega)
    have v14 : Up S H10 (upd H13 lf (.lst (R.fs.reverse.map V.int ++ [.int 78]))) := v11.trans (v12.trans (v13.trans (.put Sf hlf13)))
    show tSeq _ _ _ _ _
    generalize (upd H13 lf (.lst (R.fs.reverse.map V.int ++ [.int 78]))) = H14 at v14 ⊢
    have hT14 : Tabs T0 H14 := v14.t _ (g910.t ((g26.g.t hT2).ext e69))
    have old : ∀ {b o}, H6 b = some o → ¬ S b := fun h z => by rw [z.1] at h; cases h
    have new : ∀ {b}, H9 b = none → ¬ S b := fun h z => z.2 h
    have g610 : Gr T0 none H6 H10 := (Gr.of e69).trans g910
    have hLR14 : LRow H14 (.ref d) R := ⟨d, ka, kb, kc, rfl, v14.k _ _ (old hd) (g610.at hd), v14.rwL (L6.gr g610) (old L6.ks) (old hb6) (old L6.fs) fun rs' l hr' hl => by
      rw [g610.at hb6] at hr'
      cases hr'
      obtain ⟨j, hj⟩ := List.getElem?_of_mem hl
      obtain ⟨ms', _, l', hl', h⟩ := al6.get hj
      cases hl'
      exact old h⟩
    have hRM14 : RwAt CR H14 (.ref x) R := ⟨x, dx, a', b', c', rfl, v14.k _ _ (new hx) hx10, v14.rwL L10 (new (s9.free N10.ka)) (new (s9.free N10.kb)) (new (s9.free N10.kc)) fun rs' l hr' hl => new (s9.free (N10.kr rs' l hr' hl))⟩
    have hS14' : SqL Z.K H14 a (ns.map V.int) := by
      rcases sq g26 with (h | ⟨o, h⟩) | h
      · exact .inl (.inl (v14.k _ _ (old h) (g610.at h)))
      · exact .inl (.inr ⟨o, v14.k _ _ (old h) (g610.at h)⟩)
      · exact .inr h
    have hS14 := hS14'
    clear hS14'
    clear hLR hd L6 hb6 al6 hD e7 hD7 al7 hd7 hf7 hlf u8 e68 hlf8 hlf6 hlk u9 hlk9 hlk6 e69 e79 hx hdx hne n s9 aly L9 g10 hx10 L10 N10 g910 nS hlk10 hlf10 hD10 hn0 hl0D hl06 hl07 hl09 Sk SD Sf S0 hl010 nkD nkf nk0 nfD nf0 v11 hD11 hl011 hlf11 hn08 v12 hD12 hlf12 hysl hl7 v13 hlf13 v14 old new g610
    -- the told list
    obtain ⟨_, dxm, am, bm, cm, ex, hxm, Lm⟩ := id hRM14
    cases ex
    refine ⟨_, rfl, x, dxm, _, rfl, hxm, rfl, _, R, rfl, hRM14, fun l5 H15 e15 hl5 hl55 => ?_⟩
    refine ⟨_, rfl, .inl ⟨rfl, _, SqL.of hl55⟩, l5, _, _, rfl, rfl, hl55, ?_, ?_⟩
    · rw [List.length_map]
      have := hU.f8
      exact small1000' (by omega)
    have e16 : Same H14 (upd H15 l5 (.lst (R.fs.map V.int ++ [.int 5]))) := hr_same.put e15 hl5 hl55
    show tSeq _ _ _ _ _
    generalize (upd H15 l5 (.lst (R.fs.map V.int ++ [.int 5]))) = H16 at e16 ⊢
    have hRM16 := hRM14.mono e16
    have hLR16 := hLR14.mono e16
    have hT16 := hT14.ext e16
    have hS16 := e16.seq hS14
    clear e15 hl5 hl55 e16 hRM14 hLR14 hT14 hS14 hxm Lm
    -- the tests
    have insM : ∀ {H' : Hp} {v : V} {R' : RwD}, RwAt CR H' v R' → InsC CR H' v := fun h => by
      obtain ⟨x, dx, a, b, c, rfl, hx, _⟩ := h
      exact ⟨x, dx, _, rfl, hx⟩
    have nfM : ∀ {H' : Hp} {v : V} {R' : RwD}, RwAt CR H' v R' → Nf Z.K CR H' v := fun h => by
      obtain ⟨x, dx, a, b, c, rfl, hx, _⟩ := h
      exact ⟨_, C.ty hx, nf_own⟩
    refine ⟨_, rfl, _, rfl, _, _, R, rfl, hT16, hRM16, hLR16, hU, fun H17 g17 => ⟨true, rfl, iteF ?_⟩⟩
    have hRM17 := hRM16.gr g17
    have hLR17 := hLR16.gr g17
    refine ⟨_, rfl, _, rfl, _, R, rfl, g17.t hT16, hLR17, hGR, fun w H18 g18 hw => ⟨insM (hRM17.gr g18), nfM hw, _, _, R, rfl, hRM17.gr g18, hGR, .inl ⟨_, hw, by rw [hU.srt]; exact hGR, fun H19 e19 => ⟨_, rfl, ?_⟩⟩⟩⟩
    rw [hU.srt, eqv_same (RwDt.shaped hGR)]
    refine iteF ?_
    have g19 : Grow T0 H16 H19 := g17.trans (g18.trans (.of e19))
    have hRM19 := hRM16.gr g19
    have hLR19 := hLR16.gr g19
    refine ⟨_, rfl, insM hRM19, ⟨_, .base (.int 5), nf_int⟩, _, _, R, rfl, hRM19, hGR, .inr ⟨_, .base (.int 5), kR _ (by simp), _, rfl, iteF ?_⟩⟩
    refine ⟨_, rfl, _, R, rfl, g19.t hT16, hLR19, hU, fun H20 g20 => ⟨true, rfl, iteF ?_⟩⟩
    have g1620 := g19.trans g20
    have hRM20 := hRM16.gr g1620
    have hLR20 := hLR16.gr g1620
    have hT20 := g1620.t hT16
    have hS20 := g1620.seq hS16
    clear g17 hRM17 hLR17 g18 hw e19 g19 hRM19 hLR19 g20 g1620 hRM16 hLR16 hT16 hS16
    -- what is no node
    have many_ok : ∀ m : Fin 9, PyData.strOk (PyData.int ((m.val : Nat) : Int)).shown = true := by decide +kernel
    refine ⟨1, rfl, _, rfl, (by show 1 ≤ sizeLine; decide), fun l1 hl1 => ⟨(by show 6 ≤ sizeLine; decide), fun lo hlo => ⟨lo, rfl, ⟨_, SqL.of upd_same⟩, ?_⟩⟩⟩
    have a1 := Same.upd (o := .lst [.non, .int (-1), .int ((R.ks.length : Nat) : Int), .bl true, .str "0", .ref l1]) hlo _ _ (upd_same (H := H20) (a := l1) (o := .lst [.int 0]))
    have a2 : (upd (upd H20 l1 (.lst [.int 0])) lo (.lst [.non, .int (-1), .int ((R.ks.length : Nat) : Int), .bl true, .str "0", .ref l1])) lo = some (.lst [.non, .int (-1), .int ((R.ks.length : Nat) : Int), .bl true, .str "0", .ref l1]) := upd_same
    have e21 : Same H20 (upd (upd H20 l1 (.lst [.int 0])) lo (.lst [.non, .int (-1), .int ((R.ks.length : Nat) : Int), .bl true, .str "0", .ref l1])) := (Same.upd hl1).trans (Same.upd hlo)
    generalize (upd (upd H20 l1 (.lst [.int 0])) lo (.lst [.non, .int (-1), .int ((R.ks.length : Nat) : Int), .bl true, .str "0", .ref l1])) = H21 at a1 a2 e21 ⊢
    have ods : Al (OddN Z.K R H21) [.non, .int (-1), .int ((R.ks.length : Nat) : Int), .bl true, .str "0", .ref l1] [.none, .int (-1), .int ((R.ks.length : Nat) : Int), .bool true, .str "0", .list [.int 0]] := by
      refine Al.cons ⟨.inr ⟨_, .base .non, .inr (kit_ty (by decide +kernel))⟩, .non, rpB_ok (by decide +kernel), by decide +kernel⟩ ?_
      refine Al.cons ⟨.inl ⟨-1, rfl, by omega⟩, .int _, rpB_ok (by decide +kernel), by decide +kernel⟩ ?_
      refine Al.cons ⟨.inl ⟨_, rfl, by omega⟩, .int _, ?_, many_ok ⟨R.ks.length, by omega⟩⟩ ?_
      · have : ∀ m : _root_.Fin 9, rpB (PyData.int ((m.val : Nat) : Int)) = true := by decide +kernel
        exact rpB_ok (this ⟨R.ks.length, by omega⟩)
      refine Al.cons ⟨.inr ⟨_, .base (.bl true), .inl rfl⟩, .bl _, rpB_ok (by decide +kernel), by decide +kernel⟩ ?_
      refine Al.cons ⟨.inr ⟨_, .base (.str _), .inr (kit_ty (by decide +kernel))⟩, .str _, rpB_ok (by decide +kernel), by decide +kernel⟩ ?_
      exact Al.cons ⟨.inr ⟨_, .base (.lst a1), .inr (kit_ty (by decide +kernel))⟩, .lst (SqL.of a1) (.cons (.int _) .nil), rpB_ok (by decide +kernel), by decide +kernel⟩ Al.nil
    have hRM21 := hRM20.mono e21
    generalize hvals : ([.non, .int (-1), .int ((R.ks.length : Nat) : Int), .bl true, .str "0", .ref l1] : List V) = vals at *
    refine for_list (K := Z.K) (a := lo) (xs := vals) (fun j σ H' => Same H21 H' ∧ ∃ o12 : Option V, σ = [some (.ref a), some (.int (0 + ((i : Nat) : Int))), some (.ref p), some vp, some (.ref d), some (.int ((R.ks.length : Nat) : Int)), some (.ref D), some (.ref lf), none, some (.ref lk), some (.ref x), some (.ref l5), o12, none, o14]) ⟨Same.refl _, _, rfl⟩ (fun j σ H' _ ⟨e, _⟩ => SqL.of (e _ _ a2)) ?_ ?_
    · rintro j v σ G3 hv ⟨e3, o12, rfl⟩
      obtain ⟨dd, _, hO⟩ := ods.get hv
      have hO3 := hO.mono e3
      refine ⟨2, rfl, by decide, by decide, fun D1 hD1 => ?_⟩
      refine lcF hr_same (walk_range (lo := 0) (n := 2)) yfn (ys := [.str dd.shown, .str dd.shown]) rfl (by decide) hD1 trivial (fun _ _ => trivial) ?_ (fun G6 e6 hD6 => ?_)
      · rintro n y y' G6 Qe rfl hy e6 kk
        have hy' : y' = .str dd.shown := by
          match n, hy with
          | 0, hy => exact (Option.some.inj hy).symm
          | 1, hy => exact (Option.some.inj hy).symm
          | n + 2, hy => cases hy
        subst hy'
        have hO6 := hO3.mono e6
        exact ⟨_, rfl, _, rfl, _, rfl, _, v, R, dd, _, rfl, (hRM21.mono e3).mono e6, hO6.n, hO6.dp, hO6.rp, fun G9 e9 => kk _ e9⟩
      have hO6 := hO3.mono e6
      refine ⟨_, rfl, v, dd, rfl, hO6.dp, hO6.rp.show_, hO6.rp.nod, hO6.rp.d60, hO6.rp.sz, (by show 1 ≤ sizeLine; decide), fun l7 hl7 => ?_⟩
      have u7 := Same.upd (o := .lst [.str dd.shown]) hl7
      refine ⟨l7, 2, _, rfl, rfl, upd_same, by decide, by decide, (by show 1 * 2 ≤ sizeLine; decide), fun l8 hl8 => ?_⟩
      have u8 := Same.upd (o := .lst (List.replicate (2 : Int).toNat [V.str dd.shown]).flatten) hl8
      have hsh := shaped_strs (zs := [dd.shown, dd.shown]) fun z hz => by
        have : z = dd.shown := by simpa using hz
        rw [this]
        exact hO6.ok
      refine ⟨_, _, .lst (SqL.of ((u7.trans u8) _ _ hD6)) (DpAll.strs [dd.shown, dd.shown]), .lst (SqL.of (xs := [.str dd.shown, .str dd.shown]) upd_same) (DpAll.strs [dd.shown, dd.shown]), hsh, hsh, _, rfl, ?_⟩
      rw [eqv_same hsh]
      exact iteF ⟨e3.trans (e6.trans (u7.trans u8)), _, rfl⟩
    rintro σ H22 ⟨e22, o12', rfl⟩
    have e20 := e21.trans e22
    have hRM22 := hRM20.mono e20
    have hLR22 := hLR20.mono e20
    have hT22 := hT20.ext e20
    have hS22 := e20.seq hS20
    clear e20 e22 ods hvals a1 a2 e21 hRM21 hl1 hlo hRM20 hLR20 hT20 hS20
    -- one thing otherwise
    obtain ⟨_, ka, kb, kc, ed, hd, LL⟩ := id hLR22
    cases ed
    show tSeq _ _ _ _ _
    refine ⟨(by show 1 ≤ sizeLine; decide), fun l1 hl1 => ⟨_, rfl, d, _, rfl, .inl ⟨_, .inr "kinds", .inl (Same.upd hl1 _ _ hd), rfl, rfl⟩, ?_⟩⟩
    have u1 := Same.upd (o := .lst [.str "zzzz"]) hl1
    have c1 : (upd H22 l1 (.lst [.str "zzzz"])) l1 = some (.lst [.str "zzzz"]) := upd_same
    generalize (upd H22 l1 (.lst [.str "zzzz"])) = W1 at u1 c1 ⊢
    refine ⟨1, rfl, ka, _, rfl, SqL.of (u1 _ _ LL.ks), fun l2 hl2 => ?_⟩
    have u2 := Same.upd (o := .lst (cutV (R.ks.map V.str) (some 1) none)) hl2
    have c2 : (upd W1 l2 (.lst (cutV (R.ks.map V.str) (some 1) none))) l2 = some (.lst ((R.ks.drop 1).map V.str)) := by rw [upd_same, cutV_one, List.map_drop]
    generalize (upd W1 l2 (.lst (cutV (R.ks.map V.str) (some 1) none))) = W2 at u2 c2 ⊢
    refine ⟨l1, l2, _, _, rfl, rfl, u2 _ _ c1, c2, ?_, fun l3 hl3 => ?_⟩
    · show 1 + ((R.ks.drop 1).map V.str).length ≤ sizeLine
      rw [List.length_map, List.length_drop]
      exact Nat.le_of_lt (small1000' (by omega))
    have u3 := Same.upd (o := .lst ([.str "zzzz"] ++ (R.ks.drop 1).map V.str)) hl3
    have c3 : (upd W2 l3 (.lst ([.str "zzzz"] ++ (R.ks.drop 1).map V.str))) l3 = some (.lst ((("zzzz" : Str) :: R.ks.drop 1).map V.str)) := upd_same
    generalize (upd W2 l3 (.lst ([.str "zzzz"] ++ (R.ks.drop 1).map V.str))) = W3 at u3 c3 ⊢
    have e3 := u1.trans (u2.trans u3)
    refine ⟨_, rfl, d, _, rfl, .inl ⟨_, .inr "firsts", .inl (e3 _ _ hd), rfl, rfl⟩, (by show 2 ≤ sizeLine; decide), fun t1 ht1 => ?_⟩
    have u4 := Same.upd (o := .tup [.ref l3, .ref kc]) ht1
    have c4 : (upd W3 t1 (.tup [.ref l3, .ref kc])) t1 = some (.tup [.ref l3, .ref kc]) := upd_same
    generalize (upd W3 t1 (.tup [.ref l3, .ref kc])) = W4 at u4 c4 ⊢
    have e4 := e3.trans u4
    refine ⟨_, rfl, d, _, rfl, .inl ⟨_, .inr "kinds", .inl (e4 _ _ hd), rfl, rfl⟩, _, rfl, _, _, rfl, rfl, (by show 1 ≤ sizeLine; decide), fun l4 hl4 => ⟨(by show 2 ≤ sizeLine; decide), fun t2 ht2 => ⟨(by show 2 ≤ sizeLine; decide), fun lp hlp => ⟨lp, rfl, ?_⟩⟩⟩⟩
    have u5 := Same.upd (o := .lst [.int (((R.ks.length : Nat) : Int) - 1)]) hl4
    have c5 : (upd W4 l4 (.lst [.int (((R.ks.length : Nat) : Int) - 1)])) l4 = some (.lst ([((R.ks.length : Nat) : Int) - 1].map V.int)) := upd_same
    generalize (upd W4 l4 (.lst [.int (((R.ks.length : Nat) : Int) - 1)])) = W5 at u5 c5 ht2 hlp ⊢
    have u6 := Same.upd (o := .tup [.ref ka, .ref l4]) ht2
    have c6 : (upd W5 t2 (.tup [.ref ka, .ref l4])) t2 = some (.tup [.ref ka, .ref l4]) := upd_same
    generalize (upd W5 t2 (.tup [.ref ka, .ref l4])) = W6 at u6 c6 hlp ⊢
    have u7 := Same.upd (o := .lst [.ref t1, .ref t2]) hlp
    have c7 : (upd W6 lp (.lst [.ref t1, .ref t2])) lp = some (.lst [.ref t1, .ref t2]) := upd_same
    generalize (upd W6 lp (.lst [.ref t1, .ref t2])) = W7 at u7 c7 ⊢
    have e7 := e4.trans (u5.trans (u6.trans u7))
    have prs : Al (PrK W7) [.ref t1, .ref t2] [("zzzz" :: R.ks.drop 1, R.fs), (R.ks, [((R.ks.length : Nat) : Int) - 1])] :=
      Al.cons ⟨t1, l3, kc, rfl, (u5.trans (u6.trans u7)) _ _ c4, (u4.trans (u5.trans (u6.trans u7))) _ _ c3, e7 _ _ LL.fs⟩ (Al.cons ⟨t2, ka, l4, rfl, u7 _ _ c6, e7 _ _ LL.ks, (u6.trans u7) _ _ c5⟩ Al.nil)
    refine ⟨⟨_, SqL.of c7⟩, ?_⟩
    have hRM7 := hRM22.mono e7
    have hLR7 := hLR22.mono e7
    have hT7 := hT22.ext e7
    have hS7 := e7.seq hS22
    clear hRM22 hLR22 hT22 hS22 e7 u1 u2 u3 u4 u5 u6 u7 c1 c2 c3 c4 c5 c6 hl1 hl2 hl3 hl4 ht1 ht2 hlp hd LL e3 e4
    have gks : ∀ q ∈ ([("zzzz" :: R.ks.drop 1, R.fs), (R.ks, [((R.ks.length : Nat) : Int) - 1])] : List (List Str × List Int)), RwG ⟨q.1, R.nx, q.2⟩ ∧ (⟨q.1, R.nx, q.2⟩ : RwD).srt = ⟨q.1, R.nx, q.2⟩ := by
      have sx : R.nx.map srtI = R.nx := congrArg RwD.nx hU.srt
      have sf : srtI R.fs = R.fs := congrArg RwD.fs hU.srt
      intro q hq
      rcases List.mem_cons.mp hq with rfl | hq
      · have hl : (("zzzz" : Str) :: R.ks.drop 1).length = R.ks.length := by rw [List.length_cons, List.length_drop]; omega
        refine ⟨⟨⟨by show 1 ≤ (_ :: R.ks.drop 1).length; rw [hl]; exact hk1, by show (_ :: R.ks.drop 1).length ≤ 8; rw [hl]; exact hk8, fun z hz => ?_⟩, by show _ = (_ :: R.ks.drop 1).length; rw [hl]; exact hGR.nl, fun ns hn => ?_, fun n hn => ?_, hGR.fd, hGR.f0, hGR.nz, hGR.fz⟩, ?_⟩
        · rcases List.mem_cons.mp hz with rfl | hz
          · decide +kernel
          · exact hGR.k.w z (List.mem_of_mem_drop hz)
        · show (∀ n ∈ ns, 0 ≤ n ∧ n < ((_ :: R.ks.drop 1).length : Nat)) ∧ _
          rw [hl]
          exact hGR.nx ns hn
        · show 0 ≤ n ∧ n < ((_ :: R.ks.drop 1).length : Nat)
          rw [hl]
          exact hGR.fx n hn
        · show (⟨_, R.nx.map srtI, srtI R.fs⟩ : RwD) = _
          rw [sx, sf]
      · rw [List.mem_singleton] at hq
        subst hq
        refine ⟨⟨hGR.k, hGR.nl, hGR.nx, fun n hn => ?_, (by simp), by simp, hGR.nz, by show 1 ≤ 1000; decide⟩, ?_⟩
        · rw [List.mem_singleton.mp hn]
          show (0 : Int) ≤ _ ∧ _ < ((R.ks.length : Nat) : Int)
          omega
        · show (⟨_, R.nx.map srtI, srtI [_]⟩ : RwD) = _
          rw [sx, srtI_of (List.pairwise_singleton _ _)]
    generalize hvals : ([.ref t1, .ref t2] : List V) = vals at *
    refine for_list (K := Z.K) (a := lp) (xs := vals) (fun j σ H' => Grow T0 W7 H' ∧ ∃ o7 o9 o14 : Option V, σ = [some (.ref a), some (.int (0 + ((i : Nat) : Int))), some (.ref p), some vp, some (.ref d), some (.int ((R.ks.length : Nat) : Int)), some (.ref D), o7, none, o9, some (.ref x), some (.ref l5), o12', none, o14]) ⟨Gr.refl _, _, _, _, rfl⟩ (fun j σ H' _ ⟨e, _⟩ => SqL.of (e.at c7)) ?_ ?_
    · rintro j v σ G3 hv ⟨e3, o7, o9, o14, rfl⟩
      obtain ⟨qq, hqq, hP⟩ := prs.get hv
      obtain ⟨gq, sq'⟩ := gks qq (List.mem_of_getElem? hqq)
      obtain ⟨t, kk, ff, rfl, ht, hkk, hff⟩ := hP.gr e3
      have hLR3 := hLR7.gr e3
      have hRM3 := hRM7.gr e3
      obtain ⟨_, ka, kb, kc, ed, hd, LL⟩ := id hLR3
      cases ed
      obtain ⟨rs', hb3, al3⟩ := LL.nx
      refine ⟨t, _, rfl, SqT.of ht, rfl, _, _, rfl, _, _, rfl, rfl, ?_⟩
      intro po hpo
      have hpn := hpo
      have u0 : Same G3 (upd G3 po (.dK [])) := Same.upd hpo
      refine ⟨_, rfl, _, rfl, d, _, rfl, .inl ⟨_, .inr "nexts", .inl (u0 _ _ hd), rfl, rfl⟩, _, rfl, upd_same, [(.inr "kinds", .ref kk), (.inr "nexts", .ref kb), (.inr "firsts", .ref ff)], rfl, by show 3 ≤ 15; decide, ?_⟩
      have u1 : Same G3 (upd (upd G3 po (.dK [])) po (.dK (mergeK [] [(.inr "kinds", .ref kk), (.inr "nexts", .ref kb), (.inr "firsts", .ref ff)]))) := Same.upd2 hpo
      have h1 : (upd (upd G3 po (.dK [])) po (.dK (mergeK [] [(.inr "kinds", .ref kk), (.inr "nexts", .ref kb), (.inr "firsts", .ref ff)]))) po = some (.dK [(.inr "kinds", .ref kk), (.inr "nexts", .ref kb), (.inr "firsts", .ref ff)]) := upd_same
      generalize (upd (upd G3 po (.dK [])) po (.dK (mergeK [] [(.inr "kinds", .ref kk), (.inr "nexts", .ref kb), (.inr "firsts", .ref ff)]))) = G4 at u1 h1 ⊢
      have hO4 : LRow G4 (.ref po) ⟨qq.1, R.nx, qq.2⟩ := ⟨po, kk, kb, ff, rfl, h1, u1 _ _ hkk, ⟨rs', u1 _ _ hb3, al3.imp fun v ns ⟨l, hv, hl⟩ => ⟨l, hv, u1 _ _ hl⟩⟩, u1 _ _ hff⟩
      refine ⟨_, rfl, _, rfl, _, _, rfl, (e3.t hT7).ext u1, hO4, gq, fun w G5 g5 hw => ?_⟩
      have g35 : Grow T0 G3 G5 := (Gr.of u1).trans g5
      rw [sq'] at hw
      refine ⟨insM (hRM3.gr g35), nfM hw, _, _, R, rfl, hRM3.gr g35, hGR, .inl ⟨_, hw, gq, fun G6 e6 => ?_⟩⟩
      have g36 : Grow T0 G3 G6 := g35.trans (.of e6)
      have shk : SeqAt.shaped (.list (qq.1.map PyData.str)) = true := kinds_sh gq
      refine ⟨_, rfl, _, rfl, d, _, rfl, .inl ⟨_, .inr "kinds", .inl (g36.at hd), rfl, rfl⟩, _, _, .lst (SqL.of (g36.at hkk)) (DpAll.strs _), .lst (SqL.of (g36.at LL.ks)) (DpAll.strs _), shk, kinds_sh hGR, _, rfl, ?_⟩
      rw [eqv_otherKF]
      have fin6 := e3.trans g36
      cases hb : PyData.eqv (.list (qq.1.map PyData.str)) (.list (R.ks.map PyData.str)) with
      | true =>
        refine iteT ⟨_, rfl, _, rfl, d, _, rfl, .inl ⟨_, .inr "firsts", .inl (g36.at hd), rfl, rfl⟩, _, _, .lst (SqL.of (g36.at hff)) (DpAll.ints _), .lst (SqL.of (g36.at LL.fs)) (DpAll.ints _), shaped_ints _, shaped_ints _, rfl, _, rfl, ?_⟩
        rw [Bool.true_and, decide_eq_true rfl]
        exact iteF ⟨fin6, _, _, _, rfl⟩
      | false =>
        refine iteF ⟨rfl, _, rfl, ?_⟩
        rw [Bool.false_and, decide_eq_true rfl]
        exact iteF ⟨fin6, _, _, _, rfl⟩
    -- no nexts
    rintro σ W8 ⟨g8, o7, o9, o14, rfl⟩
    have hLR8 := hLR7.gr g8
    have hRM8 := hRM7.gr g8
    have hT8 := g8.t hT7
    have hS8 := g8.seq hS7
    clear prs c7 hRM7 hLR7 hT7 hS7 g8 gks
    obtain ⟨_, ka, kb, kc, ed, hd, LL⟩ := id hLR8
    cases ed
    intro po hpo
    have u0 : Same W8 (upd W8 po (.dK [])) := Same.upd hpo
    refine ⟨_, rfl, d, _, rfl, .inl ⟨_, .inr "kinds", .inl (u0 _ _ hd), rfl, rfl⟩, (by show 0 ≤ sizeLine; decide), fun l1 hl1 => ⟨(by show 1 ≤ sizeLine; decide), fun l2 hl2 => ?_⟩⟩
    have w1 := Same.upd (o := .lst []) hl1
    have w2 := Same.upd (o := .lst [.ref l1]) hl2
    have x1 := w2 _ _ (upd_same (H := upd W8 po (.dK [])) (a := l1) (o := .lst []))
    have x2 : (upd (upd (upd W8 po (.dK [])) l1 (.lst [])) l2 (.lst [.ref l1])) l2 = some (.lst [.ref l1]) := upd_same
    have x0 := (w1.trans w2) _ _ (upd_same (H := W8) (a := po) (o := .dK []))
    have w3 := u0.trans (w1.trans w2)
    generalize (upd (upd (upd W8 po (.dK [])) l1 (.lst [])) l2 (.lst [.ref l1])) = W9 at w3 x0 x1 x2 ⊢
    clear w1 w2 hl1 hl2 u0
    refine ⟨_, rfl, l2, _, _, rfl, rfl, x2, by omega, by omega, (by show 1 * _ ≤ sizeLine; rw [Nat.one_mul]; exact Nat.le_of_lt (small1000' (by omega))), fun l3 hl3 => ?_⟩
    have w4 := Same.upd (o := .lst (List.replicate ((R.ks.length : Nat) : Int).toNat [V.ref l1]).flatten) hl3
    have x3 : (upd W9 l3 (.lst (List.replicate ((R.ks.length : Nat) : Int).toNat [V.ref l1]).flatten)) l3 = some (.lst (List.replicate R.ks.length (V.ref l1))) := by
      rw [upd_same, Int.toNat_natCast]
      congr 2
      simp
    generalize (upd W9 l3 (.lst (List.replicate ((R.ks.length : Nat) : Int).toNat [V.ref l1]).flatten)) = W10 at w4 x3 ⊢
    have w10 := w3.trans w4
    have x10 := w4 _ _ x0
    refine ⟨_, rfl, d, _, rfl, .inl ⟨_, .inr "firsts", .inl (w10 _ _ hd), rfl, rfl⟩, x10, [(.inr "kinds", .ref ka), (.inr "nexts", .ref l3), (.inr "firsts", .ref kc)], rfl, by show 3 ≤ 15; decide, ?_⟩
    have w11 : Same W8 (upd W10 po (.dK (mergeK [] [(.inr "kinds", .ref ka), (.inr "nexts", .ref l3), (.inr "firsts", .ref kc)]))) := fun b o e => by
      rw [upd_ne (ne_of_none e hpo)]
      exact w10 b o e
    have nD : ∀ {y : Addr} {u : List V}, W10 y = some (.lst u) → (upd W10 po (.dK (mergeK [] [(.inr "kinds", .ref ka), (.inr "nexts", .ref l3), (.inr "firsts", .ref kc)]))) y = some (.lst u) := fun {y u} hy => by
      rw [upd_ne fun z => by rw [z, x10] at hy; cases hy]
      exact hy
    have h1 : (upd W10 po (.dK (mergeK [] [(.inr "kinds", .ref ka), (.inr "nexts", .ref l3), (.inr "firsts", .ref kc)]))) po = some (.dK [(.inr "kinds", .ref ka), (.inr "nexts", .ref l3), (.inr "firsts", .ref kc)]) := upd_same
    have y3 := nD x3
    have y1 := nD (w4 _ _ x1)
    generalize (upd W10 po (.dK (mergeK [] [(.inr "kinds", .ref ka), (.inr "nexts", .ref l3), (.inr "firsts", .ref kc)]))) = W11 at w11 h1 y3 y1 ⊢
    have alr : Al (IsInts W11) (List.replicate R.ks.length (V.ref l1)) (List.replicate R.ks.length ([] : List Int)) := by
      refine ⟨by rw [List.length_replicate, List.length_replicate], fun j v ns hv hn => ?_⟩
      have ev := List.eq_of_mem_replicate (List.mem_of_getElem? hv)
      have en := List.eq_of_mem_replicate (List.mem_of_getElem? hn)
      subst ev en
      exact ⟨l1, rfl, y1⟩
    have hO : LRow W11 (.ref po) ⟨R.ks, List.replicate R.ks.length [], R.fs⟩ := ⟨po, ka, l3, kc, rfl, h1, w11 _ _ LL.ks, ⟨_, y3, alr⟩, w11 _ _ LL.fs⟩
    have gO : RwG ⟨R.ks, List.replicate R.ks.length [], R.fs⟩ := ⟨hGR.k, List.length_replicate, fun ns hn => by
      have := List.eq_of_mem_replicate hn
      subst this
      exact ⟨(fun n h => by cases h), List.nodup_nil⟩, hGR.fx, hGR.fd, hGR.f0, fun ns hn => by
      have := List.eq_of_mem_replicate hn
      subst this
      exact Nat.zero_le _, hGR.fz⟩
    have sO : (⟨R.ks, List.replicate R.ks.length [], R.fs⟩ : RwD).srt = ⟨R.ks, List.replicate R.ks.length [], R.fs⟩ := by
      have sf : srtI R.fs = R.fs := congrArg RwD.fs hU.srt
      show (⟨_, (List.replicate R.ks.length []).map srtI, srtI R.fs⟩ : RwD) = _
      rw [sf, List.map_replicate, srtI_of List.Pairwise.nil]
    refine ⟨_, rfl, _, rfl, _, _, rfl, hT8.ext w11, hO, gO, fun w W12 g12 hw => ?_⟩
    rw [sO] at hw
    have g812 : Grow T0 W8 W12 := (Gr.of w11).trans g12
    refine ⟨insM (hRM8.gr g812), nfM hw, _, _, R, rfl, hRM8.gr g812, hGR, .inl ⟨_, hw, gO, fun W13 e13 => ?_⟩⟩
    have g813 : Grow T0 W8 W13 := g812.trans (.of e13)
    have gO13 : Grow T0 W11 W13 := g12.trans (.of e13)
    obtain ⟨rs', hb8, al8⟩ := LL.nx
    refine ⟨_, rfl, d, _, rfl, .inl ⟨_, .inr "nexts", .inl (g813.at hd), rfl, rfl⟩, _, rfl, po, _, rfl, .inl ⟨_, .inr "nexts", .inl (gO13.at h1), rfl, rfl⟩, _, _, .lst (SqL.of (g813.at hb8)) (nx_dp (al8.imp fun v ns ⟨l, hv, hl⟩ => ⟨l, hv, g813.at hl⟩)), .lst (SqL.of (gO13.at y3)) (nx_dp (alr.imp fun v ns ⟨l, hv, hl⟩ => ⟨l, hv, gO13.at hl⟩)), nx_shaped _, nx_shaped _, rfl, _, rfl, ?_⟩
    rw [eqv_otherN, decide_eq_true rfl]
    exact iteF ⟨g813.t hT8, g813.seq hS8, _, _, _, _, _, _, _, _, _, _, _, _, rfl⟩
end
end Ps

/-! Own errors behind the top. -/
namespace Ps
open PySem PySem.Spec PyProof.Rows PySem.W L2 He

def excObjB (K : Frag) (C P : Addr) : Bool := match K.lookup C with
  | some ⟨.type "type", _, .cls cd, sl⟩ => (match sl.toList with
    | [_, _, _, _, some (.builtin n), _] => decide (cd.mro = .ref C :: .ref P :: ESX.exTail) && (decide (n = "Exception.__new__") && (!cd.hasDel && cd.hasDict))
    | _ => false)
  | _ => false
theorem excObjB_ok {K : Frag} {C P : Addr} (h : excObjB K C P = true) : ∃ nm q N bs sn sub ab col dd k0 k1 k2 k3 k5, K.lookup C = some (excClassObj nm q C N bs (.ref P :: ESX.exTail) true sn sub ab col dd k0 k1 k2 k3 k5 "Exception.__new__") := by
  unfold excObjB at h
  split at h
  · rename_i dd cd sl ho
    split at h
    · rename_i k0 k1 k2 k3 n k5 hs
      obtain ⟨h1, h⟩ := ba h
      obtain ⟨h2, h⟩ := ba h
      obtain ⟨h3, h4⟩ := ba h
      have h1 := of_decide_eq_true h1
      have h2 := of_decide_eq_true h2
      obtain ⟨nm, bs, mro, ns, qn, hd, sn, sub, ab, col, del⟩ := cd
      dsimp only at h1 h3 h4
      have h3 : del = false := by simpa using h3
      subst h1 h2 h3 h4
      have hsl : sl = #[k0, k1, k2, k3, some (.builtin "Exception.__new__"), k5] := by
        obtain ⟨l⟩ := sl
        simp only at hs
        rw [hs]
      subst hsl
      exact ⟨nm, qn, ns, bs, sn, sub, ab, col, dd, k0, k1, k2, k3, k5, ho⟩
    · cases h
  · cases h
def excB (K : Frag) (x fl : Str) : Bool := excObjB K (ga K x) (ga K "PlanError") && ((Fa.glo x).ok K && (eqO (findIn K (.ref (ga K x)) "__setattr__") (some (some (.builtin "object.__setattr__"))) && (eqO (findIn K (.ref (ga K x)) fl) (some none) &&
  (keepIn K (.ref (ga K x)) && (decide (typeIn K (.ref (ga K x)) = some (.type "type")) && xfB K (ga K x))))))
theorem excB_ok {K : Frag} {h : Heap} {mg : Str → Option Value} {x fl qual : Str} {st : Stmt} {f : Addr} {fd : FuncData} {p1 p2 q1 q2 q3 q4 : Pos} (X : K.In h) (G : h.Ns mainGlobals mg) (c : excB K x fl = true) (g : GotM K (ga K x) "__init__" qual st f fd)
    (hA : defArgs st = xA fl p1 p2) (hB : defBody st = xB fl q1 q2 q3 q4) (hS : defScope st = xS fl) : ExT K mg x fl qual (ga K x) (ga K "PlanError") f := by
  obtain ⟨c1, c⟩ := ba c
  obtain ⟨c2, c⟩ := ba c
  obtain ⟨c3, c⟩ := ba c
  obtain ⟨c4, c⟩ := ba c
  obtain ⟨c5, c⟩ := ba c
  obtain ⟨c6, c7⟩ := ba c
  obtain ⟨oc, od, kV, doc, pm, an, cdv, ct, osl, rfl, lk, hcd⟩ := g.F.ex
  rw [hA, hB, hS] at lk
  exact ⟨glo_ok X G c2, excObjB_ok c1, eqO_ok c3, eqO_ok c4, g.o.fn, beq_iff_eq.mp g.o.isf, c5, of_decide_eq_true c6, xfB_ok c7, ⟨oc, od, kV, doc, pm, an, cdv, ct, osl, p1, p2, q1, q2, q3, q4, lk, hcd⟩⟩
def exmB (K : Frag) (x y : Str) (b : Bool) : Bool := decide (exmOne K (.ref (ga K x)) (.ref (ga K y)) = some b)
def noSubB (K : Frag) (C : Addr) (Ts : List String) : Bool := Ts.all fun T => decide (subIn K (.ref C) (.type T) = some false)
end Ps

/-! Shares behind the top: facts by a Bool. -/
namespace Ps
open PySem PySem.Spec PyProof.Rows PySem.W L2 He

/-- a class of the text whose instances' types are asked -/
def ownB (K : Frag) (C : Addr) : Bool := eqO (findIn K (.ref C) "__class__") (some (some (.builtin "object.__class__"))) && (eqO (specialIn K (.builtin "object.__class__") "__get__") (some (some (.builtin "getset_descriptor.__get__"))) && (decide (takesIn K (.builtin "object.__class__") = some true) && decide (mroIn K C (.type "object") = some true)))
def shB (K : Frag) : Bool := (Fa.cls "Share").ok K && ((Fa.mkr "Share").ok K && ((Fa.noat "Share" "own_top").ok K && ((Fa.noat "Share" "own_under").ok K && ((Fa.glo "Share").ok K && (freeB K ["isinstance", "int", "bool", "abs", "len", "range", "max", "min"] && (ownB K (ga K "Share") &&
  (decide (kitOne K (.ref (ga K "Share")) (.ref (ga K "Share")) = some true) && (decide (kitOne K (.ref (ga K "Share")) (.type "int") = some false) && (decide (kitOne K (.type "int") (.ref (ga K "Share")) = some false) && ([.type "bool", .type "str", .type "NoneType", .type "list", .type "tuple", .type "dict"] : List Value).all fun t => decide (kitOne K t (.ref (ga K "Share")) = some false))))))))))
def numsB (K : Frag) : Bool := numB K (ga K "Share") "add" && (numB K (ga K "Share") "sub" && numB K (ga K "Share") "mul")
def neB (K : Frag) (C : Addr) : Bool := eqO (findIn K (.ref C) "__ne__") (some (some (.builtin "object.__ne__"))) && decide (mroIn K C (.type "object") = some true)
theorem neB_ok {K : Frag} {C : Addr} (c : neB K C = true) : NeT K C := by
  obtain ⟨c1, c2⟩ := ba c
  exact ⟨eqO_ok c1, of_decide_eq_true c2⟩
def rflB (K : Frag) (C : Addr) (nm : String) : Bool := findB K C (dunderR nm)
theorem rflB_ok {K : Frag} {C : Addr} {nm : String} (c : rflB K C nm = true) : Rfl K C nm := ⟨⟨_, eqO_ok c, .inr ⟨_, rfl⟩⟩⟩
def noiB (K : Frag) (C : Addr) (nm : String) : Bool := (clsIn K C).any (fun cd => decide (cd.mro = [.ref C, .type "object"])) && (eqO (findIn K (.ref C) (dunderI nm)) (some none) && decide (fastLookup "object" (dunderI nm) = some none))
theorem noiB_ok {K : Frag} {C : Addr} {nm : String} (c : noiB K C nm = true) : NoI K C nm := by
  obtain ⟨c1, c⟩ := ba c
  obtain ⟨c2, c3⟩ := ba c
  obtain ⟨cd, hc, hm⟩ := any_some c1
  exact ⟨⟨cd, hc, of_decide_eq_true hm⟩, eqO_ok c2, of_decide_eq_true c3⟩
section
variable {K : Frag} {h : Heap} {mg : Str → Option Value}
theorem shB_ok {P : Program} {w : World} {base : Heap} (X : K.In h) (G : h.Ns mainGlobals mg) (c : shB K = true) : ShT ⟨P, w, K, mg, base⟩ (ga K "Share") ∧ DrT ⟨P, w, K, mg, base⟩ ∧ Mk K (ga K "Share") (ma K (ga K "Share") "__init__") := by
  obtain ⟨c1, c⟩ := ba c
  obtain ⟨c2, c⟩ := ba c
  obtain ⟨c3, c⟩ := ba c
  obtain ⟨c4, c⟩ := ba c
  obtain ⟨c5, c⟩ := ba c
  obtain ⟨c6, c⟩ := ba c
  obtain ⟨c7, c⟩ := ba c
  obtain ⟨c8, c⟩ := ba c
  obtain ⟨c9, c⟩ := ba c
  obtain ⟨c10, c11⟩ := ba c
  obtain ⟨d1, d⟩ := ba c7
  obtain ⟨d2, d⟩ := ba d
  obtain ⟨d3, d4⟩ := ba d
  have f := fun {x : Str} (hx : x ∈ (["isinstance", "int", "bool", "abs", "len", "range", "max", "min"] : List Str)) => freeB_ok X G c6 hx
  exact ⟨⟨cls_ok c1, noat_ok c3, noat_ok c4, glo_ok X G c5, f (by simp), f (by simp), f (by simp), f (by simp), eqO_ok d1, eqO_ok d2, of_decide_eq_true d3, of_decide_eq_true d4, of_decide_eq_true c8, of_decide_eq_true c9, of_decide_eq_true c10, fun t ht => of_decide_eq_true (List.all_eq_true.mp c11 t ht)⟩,
    ⟨f (by simp), f (by simp), f (by simp), f (by simp), f (by simp)⟩, mkr_ok c2⟩
end
section
variable {Z : Cz} {h : Heap} {fn : List DefP} {ex : Frag → Bool}
end
end Ps

/-! Rows behind the top: facts by a Bool. -/
namespace Ps
open PySem PySem.Spec PyProof.Rows PySem.W L2 He

def txtR (K : Frag) (x z : Str) : Bool := match nsIn K mainGlobals x with
  | some (some (.str y _)) => decide (y = z)
  | _ => false
theorem txtR_ok {K : Frag} {h : Heap} {mg : Str → Option Value} {x z : Str} (X : K.In h) (G : h.Ns mainGlobals mg) (c : txtR K x z = true) : ∃ t, mg x = some (.str z t) := by
  unfold txtR at c
  split at c
  · rename_i y t e
    obtain rfl := of_decide_eq_true c
    exact ⟨t, mg_of X G e⟩
  · cases c
def intR (K : Frag) (x : Str) (i : Int) : Bool := match nsIn K mainGlobals x with
  | some (some (.int j _)) => decide (j = i)
  | _ => false
theorem intR_ok {K : Frag} {h : Heap} {mg : Str → Option Value} {x : Str} {i : Int} (X : K.In h) (G : h.Ns mainGlobals mg) (c : intR K x i = true) : ∃ t, mg x = some (.int i t) := by
  unfold intR at c
  split at c
  · rename_i y t e
    obtain rfl := of_decide_eq_true c
    exact ⟨t, mg_of X G e⟩
  · cases c
def rwB (K : Frag) : Bool := (Fa.cls "Rows").ok K && ((Fa.mkr "Rows").ok K && ((Fa.noat "Rows" "own_kinds").ok K && ((Fa.noat "Rows" "own_nexts").ok K && ((Fa.noat "Rows" "own_firsts").ok K && ((Fa.glo "Rows").ok K && (freeB K ["isinstance", "int", "bool", "str", "list", "len", "all", "sorted", "range", "max", "min"] && (ownB K (ga K "Rows") &&
  (decide (kitOne K (.ref (ga K "Rows")) (.ref (ga K "Rows")) = some true) && (txtR K "LETTERS" letters && (intR K "MOST_LETTERS" 8 && intR K "MOST_NODES" 8))))))))))
theorem rwB_ok {K : Frag} {h : Heap} {mg : Str → Option Value} {P : Program} {w : World} {base : Heap} (X : K.In h) (G : h.Ns mainGlobals mg) (c : rwB K = true) : RwB ⟨P, w, K, mg, base⟩ ∧ RwC ⟨P, w, K, mg, base⟩ (ga K "Rows") ∧ DrT ⟨P, w, K, mg, base⟩ ∧ Mk K (ga K "Rows") (ma K (ga K "Rows") "__init__") := by
  obtain ⟨c1, c⟩ := ba c
  obtain ⟨c2, c⟩ := ba c
  obtain ⟨c3, c⟩ := ba c
  obtain ⟨c4, c⟩ := ba c
  obtain ⟨c5, c⟩ := ba c
  obtain ⟨c6, c⟩ := ba c
  obtain ⟨c7, c⟩ := ba c
  obtain ⟨c8, c⟩ := ba c
  obtain ⟨c9, c⟩ := ba c
  obtain ⟨c10, c⟩ := ba c
  obtain ⟨c11, c12⟩ := ba c
  obtain ⟨d1, d⟩ := ba c8
  obtain ⟨d2, d⟩ := ba d
  obtain ⟨d3, d4⟩ := ba d
  have f := fun {x : Str} (hx : x ∈ (["isinstance", "int", "bool", "str", "list", "len", "all", "sorted", "range", "max", "min"] : List Str)) => freeB_ok X G c7 hx
  exact ⟨⟨f (by simp), f (by simp), f (by simp), f (by simp), f (by simp), f (by simp), f (by simp), f (by simp), txtR_ok X G c10, intR_ok X G c11, intR_ok X G c12⟩,
    ⟨cls_ok c1, noat_ok c3, noat_ok c4, noat_ok c5, glo_ok X G c6, eqO_ok d1, eqO_ok d2, of_decide_eq_true d3, of_decide_eq_true d4, of_decide_eq_true c9⟩, ⟨f (by simp), f (by simp), f (by simp), f (by simp), f (by simp)⟩, mkr_ok c2⟩
end Ps

/-! k16: the end. -/
namespace Ps
open PySem PySem.Spec PyProof.Rows PySem.W L2 He

def fnAll : List DefP := [⟨.m "BadRows" "__init__", "__init__", "BadRows.__init__", s_BadRows_dd_init, []⟩,
  ⟨.m "NoNode" "__init__", "__init__", "NoNode.__init__", s_NoNode_dd_init, []⟩,
  ⟨.g "is_integer", "is_integer", "is_integer", s_is_integer, []⟩,
  ⟨.g "is_word", "is_word", "is_word", s_is_word, []⟩,
  ⟨.g "are_nodes", "are_nodes", "are_nodes", s_are_nodes, []⟩,
  ⟨.g "ascending", "ascending", "ascending", s_ascending, []⟩,
  ⟨.m "Rows" "__init__", "__init__", "Rows.__init__", s_Rows_dd_init, []⟩,
  ⟨.m "Rows" "check_node", "check_node", "Rows.check_node", s_Rows_check_node, []⟩,
  ⟨.m "Rows" "kind", "kind", "Rows.kind", s_Rows_kind, []⟩,
  ⟨.m "Rows" "nexts", "nexts", "Rows.nexts", s_Rows_nexts, []⟩,
  ⟨.m "Rows" "firsts", "firsts", "Rows.firsts", s_Rows_firsts, []⟩,
  ⟨.m "Rows" "__len__", "__len__", "Rows.__len__", s_Rows_dd_len, []⟩,
  ⟨.m "Rows" "__eq__", "__eq__", "Rows.__eq__", s_Rows_dd_eq, []⟩,
  ⟨.g "_law_numbers", "_law_numbers", "_law_numbers", s_lw_numbers, []⟩,
  ⟨.g "_law_pool", "_law_pool", "_law_pool", s_lw_pool, []⟩,
  ⟨.g "_law_draw", "_law_draw", "_law_draw", s_lw_draw, []⟩,
  ⟨.g "_law_pick", "_law_pick", "_law_pick", s_lw_pick, []⟩,
  ⟨.g "_law_sorted", "_law_sorted", "_law_sorted", s_lw_sorted, []⟩,
  ⟨.g "_law_opened", "_law_opened", "_law_opened", s_lw_opened, []⟩,
  ⟨.g "_law_words", "_law_words", "_law_words", s_lw_words, []⟩,
  ⟨.g "_law_prices", "_law_prices", "_law_prices", s_lw_prices, []⟩,
  ⟨.g "_law_rows", "_law_rows", "_law_rows", s_lw_rows, []⟩,
  ⟨.g "_law_made_rows", "_law_made_rows", "_law_made_rows", s_lw_made_rows, []⟩,
  ⟨.g "_law_told", "_law_told", "_law_told", s_lw_told, []⟩,
  ⟨.g "_law_right", "_law_right", "_law_right", s_lw_right, []⟩,
  ⟨.g "_law_no_node", "_law_no_node", "_law_no_node", s_lw_no_node, []⟩,
  ⟨.g "_law_refused", "_law_refused", "_law_refused", s_lw_refused, []⟩,
  ⟨.g "law", "law", "law", s_lw_law, []⟩]
def exX (K : Frag) : Bool := excB K "BadRows" "field" && (excB K "NoNode" "value" && (exmB K "BadRows" "BadRows" true && exmB K "NoNode" "NoNode" true))
def exAll (K : Frag) : Bool := rwB K && (exX K && (freeB K ["repr"] && ([.type "int", .type "str", .type "NoneType", .type "list", .type "tuple"] : List Value).all fun t => decide (kitOne K t (.ref (ga K "Rows")) = some false)))
def mkAll : List (At × Str) := [(.g "ascending", "ascending.<locals>.<lambda>"), (.g "_law_sorted", "_law_sorted.<locals>.<lambda>")]
abbrev Rw : OpenRow := OpenLaw.row PySem.Challenge.rw_planswitches_k16_rows_made
abbrev hk : Hook := hookT 6 fnAll exAll mkAll
def ob (s : SharedT) : AlP := obsTG 6 fnAll exAll mkAll (HandSHeadRun.getT s)
theorem ob_eq (s : SharedT) : ob s = hk.obs s.abs := obsTG_eq (HandSHeadRun.getT_eq s)
def loose : List PySem.Str := (["_wall", "__name__", "PlanError", "BadRows", "NoNode", "is_integer", "LETTERS", "MOST_LETTERS", "is_word", "MOST_NODES", "are_nodes", "ascending", "Rows", "_law_numbers", "_law_pool", "_law_draw", "_law_pick", "_law_sorted", "_law_opened", "_law_words"] : List PySem.Str) ++ (["_law_prices", "_law_rows", "_law_made_rows", "_law_told", "_law_right", "_law_no_node", "_law_refused"] : List PySem.Str)
theorem run (w : World) : HandSHeadRun.RunEq Rw (view Rw.prog [31]) hk ob 20000 loose w := by
  intro os
  kernel_rfl
theorem facts {P : Program} {w : World} {K : Frag} {h : Heap} {mg : Str → Option Value} {f : Addr} (X : K.In h) (G : h.Ns mainGlobals mg) (hfa : mg ("law" : Str) = some (.ref f)) (c : SaysP fnAll exAll K) (t : TabsH mkAll K h) :
    ∃ fd : FuncData, (∀ (s : Shared) (v : Value), BindsTo s fd ⟨[v], []⟩ [("_law_script", v)]) ∧ ∀ base : Heap, K.In base → base.Ns mainGlobals mg → (∀ p ∈ tabsOf mkAll K, LamX.TabB base mg p.1 p.2) → FnG P w K mg base CX0 8 f fd ["_law_script"] (spLawT K (tabsT mkAll K)) := by
  obtain ⟨f_BadRows_dd_init, fd_BadRows_dd_init, g_BadRows_dd_init⟩ := c.meth 0 rfl
  obtain ⟨f_NoNode_dd_init, fd_NoNode_dd_init, g_NoNode_dd_init⟩ := c.meth 1 rfl
  obtain ⟨f_is_integer, fd_is_integer, g_is_integer⟩ := c.glo X G 2 rfl
  obtain ⟨f_is_word, fd_is_word, g_is_word⟩ := c.glo X G 3 rfl
  obtain ⟨f_are_nodes, fd_are_nodes, g_are_nodes⟩ := c.glo X G 4 rfl
  obtain ⟨f_ascending, fd_ascending, g_ascending⟩ := c.glo X G 5 rfl
  obtain ⟨f_Rows_dd_init, fd_Rows_dd_init, g_Rows_dd_init⟩ := c.meth 6 rfl
  obtain ⟨f_Rows_check_node, fd_Rows_check_node, g_Rows_check_node⟩ := c.meth 7 rfl
  obtain ⟨f_Rows_kind, fd_Rows_kind, g_Rows_kind⟩ := c.meth 8 rfl
  obtain ⟨f_Rows_nexts, fd_Rows_nexts, g_Rows_nexts⟩ := c.meth 9 rfl
  obtain ⟨f_Rows_firsts, fd_Rows_firsts, g_Rows_firsts⟩ := c.meth 10 rfl
  obtain ⟨f_Rows_dd_len, fd_Rows_dd_len, g_Rows_dd_len⟩ := c.meth 11 rfl
  obtain ⟨f_Rows_dd_eq, fd_Rows_dd_eq, g_Rows_dd_eq⟩ := c.meth 12 rfl
  obtain ⟨f_lw_numbers, fd_lw_numbers, g_lw_numbers⟩ := c.glo X G 13 rfl
  obtain ⟨f_lw_pool, fd_lw_pool, g_lw_pool⟩ := c.glo X G 14 rfl
  obtain ⟨f_lw_draw, fd_lw_draw, g_lw_draw⟩ := c.glo X G 15 rfl
  obtain ⟨f_lw_pick, fd_lw_pick, g_lw_pick⟩ := c.glo X G 16 rfl
  obtain ⟨f_lw_sorted, fd_lw_sorted, g_lw_sorted⟩ := c.glo X G 17 rfl
  obtain ⟨f_lw_opened, fd_lw_opened, g_lw_opened⟩ := c.glo X G 18 rfl
  obtain ⟨f_lw_words, fd_lw_words, g_lw_words⟩ := c.glo X G 19 rfl
  obtain ⟨f_lw_prices, fd_lw_prices, g_lw_prices⟩ := c.glo X G 20 rfl
  obtain ⟨f_lw_rows, fd_lw_rows, g_lw_rows⟩ := c.glo X G 21 rfl
  obtain ⟨f_lw_made_rows, fd_lw_made_rows, g_lw_made_rows⟩ := c.glo X G 22 rfl
  obtain ⟨f_lw_told, fd_lw_told, g_lw_told⟩ := c.glo X G 23 rfl
  obtain ⟨f_lw_right, fd_lw_right, g_lw_right⟩ := c.glo X G 24 rfl
  obtain ⟨f_lw_no_node, fd_lw_no_node, g_lw_no_node⟩ := c.glo X G 25 rfl
  obtain ⟨f_lw_refused, fd_lw_refused, g_lw_refused⟩ := c.glo X G 26 rfl
  obtain ⟨f_lw_law, fd_lw_law, g_lw_law⟩ := c.glo X G 27 rfl
  have e := hfa.symm.trans g_lw_law.m
  cases e
  refine ⟨fd_lw_law, fun s v => ?_, fun base hK hG hB => ?_⟩
  · obtain ⟨⟨oc, od, kV, doc, pm, an, cdv, ct, osl, rfl, lk, hcd⟩, kp⟩ := g_lw_law.F
    exact .of_eq rfl
  let Z : Cz := ⟨P, w, K, mg, base⟩

  obtain ⟨ce1, ce⟩ := ba c.more
  obtain ⟨cx, ce⟩ := ba ce
  obtain ⟨cfr, ckR⟩ := ba ce
  obtain ⟨cx1, cx⟩ := ba cx
  obtain ⟨cx2, cx⟩ := ba cx
  obtain ⟨cx3, cx4⟩ := ba cx
  have mr : mg "repr" = none := freeB_ok X G cfr (by simp)
  obtain ⟨B, C, D, M⟩ := rwB_ok (P := P) (w := w) (base := base) X G ce1
  have tr := excB_ok X G cx1 g_BadRows_dd_init rfl rfl rfl
  have tn := excB_ok X G cx2 g_NoNode_dd_init rfl rfl rfl
  have kR : ∀ t ∈ ([.type "int", .type "str", .type "NoneType", .type "list", .type "tuple"] : List Value), kitOne K t (.ref (ga K "Rows")) = some false := fun t ht => of_decide_eq_true (List.all_eq_true.mp ckR t ht)
  have c_isint := g_is_integer.cal (Z := Z) (ok_isint g_is_integer.F B) (g_is_integer.F.binds fun _ _ _ _ _ _ us hl => match us, hl with | [_], _ => rfl)
  have c_isw := g_is_word.cal (Z := Z) (ok_is_word g_is_word.F B) (g_is_word.F.binds fun _ _ _ _ _ _ us hl => match us, hl with | [_], _ => rfl)
  have c_nds := g_are_nodes.cal (Z := Z) (ok_are_nodes g_are_nodes.F B c_isint) (g_are_nodes.F.binds fun _ _ _ _ _ _ us hl => match us, hl with | [_, _], _ => rfl)
  have m_asc := Got.mkr (Z := Z) (q := "ascending.<locals>.<lambda>") t hB (by simp [mkAll]) X G g_ascending (At.glo X G (c.def_ 5 rfl).1)
  have c_asc := g_ascending.cal (Z := Z) (ok_asc (T0 := tabsT mkAll K) g_ascending.F B m_asc) (g_ascending.F.binds fun _ _ _ _ _ _ us hl => match us, hl with | [_], _ => rfl)
  have m_srt := Got.mkr (Z := Z) (q := "_law_sorted.<locals>.<lambda>") t hB (by simp [mkAll]) X G g_lw_sorted (At.glo X G (c.def_ 17 rfl).1)
  have c_srt := g_lw_sorted.cal (Z := Z) (ok_lsorted (T0 := tabsT mkAll K) g_lw_sorted.F B m_srt) (g_lw_sorted.F.binds fun _ _ _ _ _ _ us hl => match us, hl with | [_], _ => rfl)
  have k_rows := ok_Rows (Z := Z) g_Rows_dd_init.F B C tr c_isw c_nds c_asc
  have hmi : ma K (ga K "Rows") "__init__" = f_Rows_dd_init := by
    unfold ma
    rw [g_Rows_dd_init.o.fn]
  rw [hmi] at M
  have c_RowsN : CalC Z (CXN Z) 3 (ga K "Rows") "Rows" ["self", "kinds", "nexts", "firsts"] [] (spRows K (tabsT mkAll K) (ga K "Rows") (ga K "BadRows")) := ⟨_, _, [], k_rows, M, C.mg, (g_Rows_dd_init.F.binds fun _ _ _ _ _ _ us hl => match us, hl with | [_, _, _, _], _ => rfl), .nil⟩
  have c_Rows : CalC Z CX0 3 (ga K "Rows") "Rows" ["self", "kinds", "nexts", "firsts"] [] (spRows0 (tabsT mkAll K) (ga K "Rows")) := ⟨_, _, [], okCalm k_rows fun vs H Q E h => spRows0_of h, M, C.mg, (g_Rows_dd_init.F.binds fun _ _ _ _ _ _ us hl => match us, hl with | [_, _, _, _], _ => rfl), .nil⟩
  have c_ckn := g_Rows_check_node.calM (Z := Z) C.cl (ok_check_node g_Rows_check_node.F B C tn c_isint) (g_Rows_check_node.F.binds fun _ _ _ _ _ _ us hl => match us, hl with | [_, _], _ => rfl)
  have k_kind := ok_kind (Z := Z) g_Rows_kind.F C c_ckn
  have c_kind := g_Rows_kind.calM (Z := Z) C.cl k_kind (g_Rows_kind.F.binds fun _ _ _ _ _ _ us hl => match us, hl with | [_, _], _ => rfl)
  have c_kind0 := g_Rows_kind.calM (Z := Z) C.cl (okCalm k_kind (sp' := spKind0 (ga K "Rows")) fun vs H Q E h => by
    obtain ⟨v, i, R, z, rfl, h1, h2, h3, h4⟩ := h
    exact ⟨v, .int i, R, rfl, h1, .inl ⟨i, z, rfl, h2, h3, h4⟩⟩) (g_Rows_kind.F.binds fun _ _ _ _ _ _ us hl => match us, hl with | [_, _], _ => rfl)
  have k_nexts := ok_rnexts (Z := Z) g_Rows_nexts.F B C c_ckn
  have c_nexts := g_Rows_nexts.calM (Z := Z) C.cl k_nexts (g_Rows_nexts.F.binds fun _ _ _ _ _ _ us hl => match us, hl with | [_, _], _ => rfl)
  have c_nexts0 := g_Rows_nexts.calM (Z := Z) C.cl (okCalm k_nexts (sp' := spRNexts0 (ga K "Rows")) fun vs H Q E h => by
    obtain ⟨v, i, R, ns, rfl, h1, h2, h3, h4, h5⟩ := h
    exact ⟨v, .int i, R, rfl, h1, .inl ⟨i, ns, rfl, h2, h3, h4, h5⟩⟩) (g_Rows_nexts.F.binds fun _ _ _ _ _ _ us hl => match us, hl with | [_, _], _ => rfl)
  have c_len := g_Rows_dd_len.calS (Z := Z) (ok_rlen g_Rows_dd_len.F B C) (g_Rows_dd_len.F.binds fun _ _ _ _ _ _ us hl => match us, hl with | [_], _ => rfl)
  have c_firsts := g_Rows_firsts.calM (Z := Z) C.cl (ok_rfirsts g_Rows_firsts.F B C) (g_Rows_firsts.F.binds fun _ _ _ _ _ _ us hl => match us, hl with | [_], _ => rfl)
  have c_req := g_Rows_dd_eq.calS (Z := Z) (ok_rweq g_Rows_dd_eq.F B C) (g_Rows_dd_eq.F.binds fun _ _ _ _ _ _ us hl => match us, hl with | [_, _], _ => rfl)
  have c_numbers := g_lw_numbers.cal (Z := Z) (ok_numbers g_lw_numbers.F D) (g_lw_numbers.F.binds fun _ _ _ _ _ _ us hl => match us, hl with | [_, _, _], _ => rfl)
  have c_pool := g_lw_pool.cal (Z := Z) (ok_pool g_lw_pool.F D c_numbers) (g_lw_pool.F.binds fun _ _ _ _ _ _ us hl => match us, hl with | [_, _, _], _ => rfl)
  have c_draw := g_lw_draw.cal (Z := Z) (ok_dr (TT := tabsT mkAll K) g_lw_draw.F D) (g_lw_draw.F.binds fun _ _ _ _ _ _ us hl => match us, hl with | [_, _], _ => rfl)
  have c_pick := g_lw_pick.cal (Z := Z) (ok_pick g_lw_pick.F D c_draw) (g_lw_pick.F.binds fun _ _ _ _ _ _ us hl => match us, hl with | [_, _], _ => rfl)
  have c_opened := g_lw_opened.cal (Z := Z) (ok_opened g_lw_opened.F D c_pool) (g_lw_opened.F.binds fun _ _ _ _ _ _ us hl => match us, hl with | [_, _, _], _ => rfl)
  have c_words := g_lw_words.cal (Z := Z) (ok_words g_lw_words.F c_draw) (g_lw_words.F.binds fun _ _ _ _ _ _ us hl => match us, hl with | [_, _], _ => rfl)
  have c_prices := g_lw_prices.cal (Z := Z) (ok_prices g_lw_prices.F c_draw) (g_lw_prices.F.binds fun _ _ _ _ _ _ us hl => match us, hl with | [_, _], _ => rfl)
  have c_rows := g_lw_rows.cal (Z := Z) (ok_lrows g_lw_rows.F D c_draw c_pick c_srt) (g_lw_rows.F.binds fun _ _ _ _ _ _ us hl => match us, hl with | [_, _, _], _ => rfl)
  have c_made := g_lw_made_rows.cal (Z := Z) (ok_madeR g_lw_made_rows.F B c_Rows) (g_lw_made_rows.F.binds fun _ _ _ _ _ _ us hl => match us, hl with | [_], _ => rfl)
  have c_told := g_lw_told.cal (Z := Z) (ok_told g_lw_told.F tr (of_decide_eq_true cx3) c_RowsN) (g_lw_told.F.binds fun _ _ _ _ _ _ us hl => match us, hl with | [_, _, _], _ => rfl)
  have c_right := g_lw_right.cal (Z := Z) (ok_right g_lw_right.F D C c_len c_firsts c_kind0 c_nexts0 c_srt) (g_lw_right.F.binds fun _ _ _ _ _ _ us hl => match us, hl with | [_, _], _ => rfl)
  have k_nonode := ok_no_node (Z := Z) g_lw_no_node.F mr tn (of_decide_eq_true cx4) c_kind c_nexts
  have c_nonode : CalG Z CX0 5 "_law_no_node" ["_law_made", "_law_odd", "_law_way"] (spNoNode Z.K (ga K "Rows")) := ⟨_, _, k_nonode, g_lw_no_node.m, g_lw_no_node.F.kp, (g_lw_no_node.F.binds fun _ _ _ _ _ _ us hl => match us, hl with | [_, _, _], _ => rfl)⟩
  have c_refused := g_lw_refused.cal (Z := Z) (ok_refused g_lw_refused.F D c_told) (g_lw_refused.F.binds fun _ _ _ _ _ _ us hl => match us, hl with | [_], _ => rfl)
  exact ok_law g_lw_law.F D B C mr kR c_req c_Rows c_opened c_draw c_words c_prices c_rows c_firsts c_right c_made c_refused c_nonode
end Ps
open PySem PySem.W PySem.Calls PyProof.Rows
theorem PySem.Challenge.cw_planswitches_k16_rows_made_holds : PySem.Challenge.rw_planswitches_k16_rows_made.Holds := by
  w_on; o_law
  refine HandSHeadRun.head_any (r := OpenLaw.row PySem.Challenge.rw_planswitches_k16_rows_made) (q := view (OpenLaw.row PySem.Challenge.rw_planswitches_k16_rows_made).prog [31]) (H := Ps.hk) (ob := Ps.ob) (M := 20000) (loose := Ps.loose) (d := HandSHeadRun.topDef (OpenLaw.row PySem.Challenge.rw_planswitches_k16_rows_made).prog 31) (kwd := []) Ps.ob_eq
    (by kernel_rfl) (fun s => by kernel_rfl) Ps.run (by kernel_rfl) (by kernel_rfl) (by kernel_rfl) (by rfl) (by first | assumption | decide +kernel) (by decide +kernel) ⟨rfl, rfl, rfl, rfl, rfl, by decide +kernel⟩ ?hw ?hc
  case hw => w_witness2
  case hc =>
    refine Ps.walk_GT (l := PySem.Challenge.rw_planswitches_k16_rows_made) (n := 63) (k := 8) (x := "_law_script") (CX := L2.CX0) rfl (by decide) (by kernel_rfl) ⟨rfl, by decide, by decide⟩ ?F (fun _ _ _ _ z => z)
    intro w mg fa h Y G hmg0
    obtain ⟨K, KX, c, t⟩ := Y
    have hmg : mg ("law" : PySem.Str) = some (.ref fa) := by
      have e : (HandSHeadRun.topDef (OpenLaw.row PySem.Challenge.rw_planswitches_k16_rows_made).prog 31).name = ("law" : PySem.Str) := by kernel_rfl
      rw [← e]
      exact hmg0
    obtain ⟨fd, hb, hF⟩ := Ps.facts (P := (PySem.Challenge.rw_planswitches_k16_rows_made).prog) (w := w) KX G hmg c t
    exact ⟨K, fd, Ps.spLawT K (Ps.tabsT Ps.mkAll K), Ps.tabsOf Ps.mkAll K, KX, t.tab, t.out, t.code, hb, fun H a ns hl hH hS => ⟨a, ns, rfl, hS, hl, Ps.tabs_start hH, fun _ => rfl⟩, hF⟩



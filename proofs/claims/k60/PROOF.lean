import PyProof.Rows.All
import Wide.All
import OpenK.AllK
import Wide.FinOn
import HandS.ForMost
import HandS.GenCall
import HandS.IsInst
import HandS.Property
import HandS.Wide
import HandS.EndBits
import HandS.OwnEq
import HandS.Defaults
import KE.KStateDown
import HandS.Head0
import HandS.Head1
import HandS.Head2
import HandS.HeadEnd
import HandS.HeadHook1
import HandS.HeadHook2
import HandS.Star
import HandS.ClsMeth
import HandS.MakeKw
import HandS.MakeKwOnly
import HandS.Exc
import HandS.ExcOwn
import HandS.ExcSuper
import HandS.ExcField
import HandS.TryOnly
import HandS.TryMany
import HandS.WordsExc
import HandS.ExcCtx
import HandS.HotCalls
import HandS.CallSlots
import HandS.More
import KE.SortKeyHeap
import KE.KDictSum
import HandS.Lambda
import HandS.SortKw
import HandS.RaiseMore
import KE.KNestM
import HandS.Codes
import KE.KEqDict
import HandS.Sort
import PyProof.DictUpdate
import PyProof.DictDisplay
import PyProof.DictTable
import HandS.DictComp
import HandS.Style
import HandS.Walk
import KE.KNest
import KE.KOpsOwn
import HandS.Deep
import HandS.GenList
import PyProof.RulesMatch
import KE.GoesSet
import KE.GoesMore
import HandS.Strs
import HandS.Text
import PyProof.NeKinds
import PySem.Challenge.RW_planswitches_k60_menu_keeps_its_books
set_option Elab.async false
set_option linter.all false
set_option maxRecDepth 100000
/-! places and scopes of the defs of planswitches_k60_menu_keeps_its_books -/
namespace Ps
open PySem L2
def topS (i : Nat) : Stmt := PySem.Challenge.pw_planswitches_k60_menu_keeps_its_books.main.body.getD i (.Pass ⟨0, 0, 0, 0⟩)
abbrev s_BadArgument_dd_init : Stmt := inClass (topS 3) 0
theorem sc_BadArgument_dd_init : FnScope ["self", "value"] ["self", "value"] (defScope s_BadArgument_dd_init) := ⟨rfl, rfl, rfl, by decide +kernel, rfl, by decide +kernel, by decide +kernel⟩
abbrev s_BadPrice_dd_init : Stmt := inClass (topS 4) 0
theorem sc_BadPrice_dd_init : FnScope ["self", "value"] ["self", "value"] (defScope s_BadPrice_dd_init) := ⟨rfl, rfl, rfl, by decide +kernel, rfl, by decide +kernel, by decide +kernel⟩
abbrev s_BadBook_dd_init : Stmt := inClass (topS 5) 0
theorem sc_BadBook_dd_init : FnScope ["self", "field"] ["self", "field"] (defScope s_BadBook_dd_init) := ⟨rfl, rfl, rfl, by decide +kernel, rfl, by decide +kernel, by decide +kernel⟩
abbrev s_BadState_dd_init : Stmt := inClass (topS 6) 0
theorem sc_BadState_dd_init : FnScope ["self", "value"] ["self", "value"] (defScope s_BadState_dd_init) := ⟨rfl, rfl, rfl, by decide +kernel, rfl, by decide +kernel, by decide +kernel⟩
abbrev s_BadMenu_dd_init : Stmt := inClass (topS 7) 0
theorem sc_BadMenu_dd_init : FnScope ["self", "value"] ["self", "value"] (defScope s_BadMenu_dd_init) := ⟨rfl, rfl, rfl, by decide +kernel, rfl, by decide +kernel, by decide +kernel⟩
abbrev s_BadShare_dd_init : Stmt := inClass (topS 8) 0
theorem sc_BadShare_dd_init : FnScope ["self", "value"] ["self", "value"] (defScope s_BadShare_dd_init) := ⟨rfl, rfl, rfl, by decide +kernel, rfl, by decide +kernel, by decide +kernel⟩
abbrev s_DividedByNothing_dd_init : Stmt := inClass (topS 9) 0
theorem sc_DividedByNothing_dd_init : FnScope ["self", "value"] ["self", "value"] (defScope s_DividedByNothing_dd_init) := ⟨rfl, rfl, rfl, by decide +kernel, rfl, by decide +kernel, by decide +kernel⟩
abbrev s_BadKind_dd_init : Stmt := inClass (topS 10) 0
theorem sc_BadKind_dd_init : FnScope ["self", "word"] ["self", "word"] (defScope s_BadKind_dd_init) := ⟨rfl, rfl, rfl, by decide +kernel, rfl, by decide +kernel, by decide +kernel⟩
abbrev s_is_integer : Stmt := topS 12
theorem sc_is_integer : FnScope ["value"] ["value"] (defScope s_is_integer) := ⟨rfl, rfl, rfl, by decide +kernel, rfl, by decide +kernel, by decide +kernel⟩
abbrev s_common : Stmt := topS 13
theorem sc_common : FnScope ["one", "other"] ["one", "other"] (defScope s_common) := ⟨rfl, rfl, rfl, by decide +kernel, rfl, by decide +kernel, by decide +kernel⟩
abbrev s_share_of_number : Stmt := topS 14
theorem sc_share_of_number : FnScope ["value"] ["value"] (defScope s_share_of_number) := ⟨rfl, rfl, rfl, by decide +kernel, rfl, by decide +kernel, by decide +kernel⟩
abbrev s_is_number : Stmt := topS 15
theorem sc_is_number : FnScope ["value"] ["value"] (defScope s_is_number) := ⟨rfl, rfl, rfl, by decide +kernel, rfl, by decide +kernel, by decide +kernel⟩
abbrev s_Share_dd_init : Stmt := inClass (topS 16) 0
theorem sc_Share_dd_init : FnScope ["self", "top", "under", "divisor"] ["self", "top", "under"] (defScope s_Share_dd_init) := ⟨rfl, rfl, rfl, by decide +kernel, rfl, by decide +kernel, by decide +kernel⟩
abbrev s_Share_top : Stmt := inClass (topS 16) 1
theorem sc_Share_top : FnScope ["self"] ["self"] (defScope s_Share_top) := ⟨rfl, rfl, rfl, by decide +kernel, rfl, by decide +kernel, by decide +kernel⟩
abbrev s_Share_under : Stmt := inClass (topS 16) 2
theorem sc_Share_under : FnScope ["self"] ["self"] (defScope s_Share_under) := ⟨rfl, rfl, rfl, by decide +kernel, rfl, by decide +kernel, by decide +kernel⟩
abbrev s_Share_dd_add : Stmt := inClass (topS 16) 3
theorem sc_Share_dd_add : FnScope ["self", "other"] ["self", "other"] (defScope s_Share_dd_add) := ⟨rfl, rfl, rfl, by decide +kernel, rfl, by decide +kernel, by decide +kernel⟩
abbrev s_Share_dd_radd : Stmt := inClass (topS 16) 4
theorem sc_Share_dd_radd : FnScope ["self", "other"] ["self", "other"] (defScope s_Share_dd_radd) := ⟨rfl, rfl, rfl, by decide +kernel, rfl, by decide +kernel, by decide +kernel⟩
abbrev s_Share_dd_sub : Stmt := inClass (topS 16) 5
theorem sc_Share_dd_sub : FnScope ["self", "other"] ["self", "other"] (defScope s_Share_dd_sub) := ⟨rfl, rfl, rfl, by decide +kernel, rfl, by decide +kernel, by decide +kernel⟩
abbrev s_Share_dd_rsub : Stmt := inClass (topS 16) 6
theorem sc_Share_dd_rsub : FnScope ["self", "other"] ["self", "other"] (defScope s_Share_dd_rsub) := ⟨rfl, rfl, rfl, by decide +kernel, rfl, by decide +kernel, by decide +kernel⟩
abbrev s_Share_dd_mul : Stmt := inClass (topS 16) 7
theorem sc_Share_dd_mul : FnScope ["self", "other"] ["self", "other"] (defScope s_Share_dd_mul) := ⟨rfl, rfl, rfl, by decide +kernel, rfl, by decide +kernel, by decide +kernel⟩
abbrev s_Share_dd_rmul : Stmt := inClass (topS 16) 8
theorem sc_Share_dd_rmul : FnScope ["self", "other"] ["self", "other"] (defScope s_Share_dd_rmul) := ⟨rfl, rfl, rfl, by decide +kernel, rfl, by decide +kernel, by decide +kernel⟩
abbrev s_Share_by : Stmt := inClass (topS 16) 9
theorem sc_Share_by : FnScope ["self", "other"] ["self", "other"] (defScope s_Share_by) := ⟨rfl, rfl, rfl, by decide +kernel, rfl, by decide +kernel, by decide +kernel⟩
abbrev s_Share_dd_neg : Stmt := inClass (topS 16) 10
theorem sc_Share_dd_neg : FnScope ["self"] ["self"] (defScope s_Share_dd_neg) := ⟨rfl, rfl, rfl, by decide +kernel, rfl, by decide +kernel, by decide +kernel⟩
abbrev s_Share_dd_abs : Stmt := inClass (topS 16) 11
theorem sc_Share_dd_abs : FnScope ["self"] ["self"] (defScope s_Share_dd_abs) := ⟨rfl, rfl, rfl, by decide +kernel, rfl, by decide +kernel, by decide +kernel⟩
abbrev s_Share_dd_bool : Stmt := inClass (topS 16) 12
theorem sc_Share_dd_bool : FnScope ["self"] ["self"] (defScope s_Share_dd_bool) := ⟨rfl, rfl, rfl, by decide +kernel, rfl, by decide +kernel, by decide +kernel⟩
abbrev s_Share_minus : Stmt := inClass (topS 16) 13
theorem sc_Share_minus : FnScope ["self", "other"] ["self", "other"] (defScope s_Share_minus) := ⟨rfl, rfl, rfl, by decide +kernel, rfl, by decide +kernel, by decide +kernel⟩
abbrev s_Share_dd_lt : Stmt := inClass (topS 16) 14
theorem sc_Share_dd_lt : FnScope ["self", "other"] ["self", "other"] (defScope s_Share_dd_lt) := ⟨rfl, rfl, rfl, by decide +kernel, rfl, by decide +kernel, by decide +kernel⟩
abbrev s_Share_dd_le : Stmt := inClass (topS 16) 15
theorem sc_Share_dd_le : FnScope ["self", "other"] ["self", "other"] (defScope s_Share_dd_le) := ⟨rfl, rfl, rfl, by decide +kernel, rfl, by decide +kernel, by decide +kernel⟩
abbrev s_Share_dd_gt : Stmt := inClass (topS 16) 16
theorem sc_Share_dd_gt : FnScope ["self", "other"] ["self", "other"] (defScope s_Share_dd_gt) := ⟨rfl, rfl, rfl, by decide +kernel, rfl, by decide +kernel, by decide +kernel⟩
abbrev s_Share_dd_ge : Stmt := inClass (topS 16) 17
theorem sc_Share_dd_ge : FnScope ["self", "other"] ["self", "other"] (defScope s_Share_dd_ge) := ⟨rfl, rfl, rfl, by decide +kernel, rfl, by decide +kernel, by decide +kernel⟩
abbrev s_Share_dd_eq : Stmt := inClass (topS 16) 18
theorem sc_Share_dd_eq : FnScope ["self", "other"] ["self", "other"] (defScope s_Share_dd_eq) := ⟨rfl, rfl, rfl, by decide +kernel, rfl, by decide +kernel, by decide +kernel⟩
abbrev s_Share_dd_str : Stmt := inClass (topS 16) 19
theorem sc_Share_dd_str : FnScope ["self"] ["self"] (defScope s_Share_dd_str) := ⟨rfl, rfl, rfl, by decide +kernel, rfl, by decide +kernel, by decide +kernel⟩
abbrev s_Share_dd_repr : Stmt := inClass (topS 16) 20
theorem sc_Share_dd_repr : FnScope ["self"] ["self"] (defScope s_Share_dd_repr) := ⟨rfl, rfl, rfl, by decide +kernel, rfl, by decide +kernel, by decide +kernel⟩
abbrev s_is_word : Stmt := topS 21
theorem sc_is_word : FnScope ["value", "sign"] ["value"] (defScope s_is_word) := ⟨rfl, rfl, rfl, by decide +kernel, rfl, by decide +kernel, by decide +kernel⟩
abbrev s_is_pair : Stmt := topS 22
theorem sc_is_pair : FnScope ["value", "number"] ["value"] (defScope s_is_pair) := ⟨rfl, rfl, rfl, by decide +kernel, rfl, by decide +kernel, by decide +kernel⟩
abbrev s_shares_of : Stmt := topS 23
theorem sc_shares_of : FnScope ["pair"] ["pair"] (defScope s_shares_of) := ⟨rfl, rfl, rfl, by decide +kernel, rfl, by decide +kernel, by decide +kernel⟩
abbrev s_are_kinds : Stmt := topS 24
theorem sc_are_kinds : FnScope ["value", "word"] ["value"] (defScope s_are_kinds) := ⟨rfl, rfl, rfl, by decide +kernel, rfl, by decide +kernel, by decide +kernel⟩
abbrev s_as_make : Stmt := topS 25
theorem sc_as_make : FnScope ["value"] ["value"] (defScope s_as_make) := ⟨rfl, rfl, rfl, by decide +kernel, rfl, by decide +kernel, by decide +kernel⟩
abbrev s_Prices_dd_init : Stmt := inClass (topS 26) 0
theorem sc_Prices_dd_init : FnScope ["self", "make", "general_make", "kinds", "word"] ["self", "make", "general_make", "kinds"] (defScope s_Prices_dd_init) := ⟨rfl, rfl, rfl, by decide +kernel, rfl, by decide +kernel, by decide +kernel⟩
abbrev s_Prices_make : Stmt := inClass (topS 26) 1
theorem sc_Prices_make : FnScope ["self"] ["self"] (defScope s_Prices_make) := ⟨rfl, rfl, rfl, by decide +kernel, rfl, by decide +kernel, by decide +kernel⟩
abbrev s_Prices_make_set : Stmt := inClass (topS 26) 2
theorem sc_Prices_make_set : FnScope ["self", "value"] ["self", "value"] (defScope s_Prices_make_set) := ⟨rfl, rfl, rfl, by decide +kernel, rfl, by decide +kernel, by decide +kernel⟩
abbrev s_Prices_general_make : Stmt := inClass (topS 26) 3
theorem sc_Prices_general_make : FnScope ["self"] ["self"] (defScope s_Prices_general_make) := ⟨rfl, rfl, rfl, by decide +kernel, rfl, by decide +kernel, by decide +kernel⟩
abbrev s_Prices_general_make_set : Stmt := inClass (topS 26) 4
theorem sc_Prices_general_make_set : FnScope ["self", "value"] ["self", "value"] (defScope s_Prices_general_make_set) := ⟨rfl, rfl, rfl, by decide +kernel, rfl, by decide +kernel, by decide +kernel⟩
abbrev s_Prices_dd_getitem : Stmt := inClass (topS 26) 6
theorem sc_Prices_dd_getitem : FnScope ["self", "word"] ["self", "word"] (defScope s_Prices_dd_getitem) := ⟨rfl, rfl, rfl, by decide +kernel, rfl, by decide +kernel, by decide +kernel⟩
abbrev s_Prices_dd_setitem : Stmt := inClass (topS 26) 7
theorem sc_Prices_dd_setitem : FnScope ["self", "word", "pair", "pairs", "other"] ["self", "word", "pair"] (defScope s_Prices_dd_setitem) := ⟨rfl, rfl, rfl, by decide +kernel, rfl, by decide +kernel, by decide +kernel⟩
abbrev s_Prices_dd_contains : Stmt := inClass (topS 26) 8
theorem sc_Prices_dd_contains : FnScope ["self", "word"] ["self", "word"] (defScope s_Prices_dd_contains) := ⟨rfl, rfl, rfl, by decide +kernel, rfl, by decide +kernel, by decide +kernel⟩
abbrev s_Prices_dd_iter : Stmt := inClass (topS 26) 9
theorem sc_Prices_dd_iter : FnScope ["self"] ["self"] (defScope s_Prices_dd_iter) := ⟨rfl, rfl, rfl, by decide +kernel, rfl, by decide +kernel, by decide +kernel⟩
abbrev s_Prices_dd_len : Stmt := inClass (topS 26) 10
theorem sc_Prices_dd_len : FnScope ["self"] ["self"] (defScope s_Prices_dd_len) := ⟨rfl, rfl, rfl, by decide +kernel, rfl, by decide +kernel, by decide +kernel⟩
abbrev s_Prices_words : Stmt := inClass (topS 26) 11
theorem sc_Prices_words : FnScope ["self"] ["self"] (defScope s_Prices_words) := ⟨rfl, rfl, rfl, by decide +kernel, rfl, by decide +kernel, by decide +kernel⟩
abbrev s_Prices_own : Stmt := inClass (topS 26) 12
theorem sc_Prices_own : FnScope ["self", "word"] ["self", "word"] (defScope s_Prices_own) := ⟨rfl, rfl, rfl, by decide +kernel, rfl, by decide +kernel, by decide +kernel⟩
abbrev s_Prices_general : Stmt := inClass (topS 26) 13
theorem sc_Prices_general : FnScope ["self", "word"] ["self", "word"] (defScope s_Prices_general) := ⟨rfl, rfl, rfl, by decide +kernel, rfl, by decide +kernel, by decide +kernel⟩
abbrev s_Prices_dd_eq : Stmt := inClass (topS 26) 17
theorem sc_Prices_dd_eq : FnScope ["self", "other"] ["self", "other"] (defScope s_Prices_dd_eq) := ⟨rfl, rfl, rfl, by decide +kernel, rfl, by decide +kernel, by decide +kernel⟩
abbrev s_check_prices : Stmt := topS 27
theorem sc_check_prices : FnScope ["prices"] ["prices"] (defScope s_check_prices) := ⟨rfl, rfl, rfl, by decide +kernel, rfl, by decide +kernel, by decide +kernel⟩
abbrev s_is_above : Stmt := topS 33
theorem sc_is_above : FnScope ["value"] ["value"] (defScope s_is_above) := ⟨rfl, rfl, rfl, by decide +kernel, rfl, by decide +kernel, by decide +kernel⟩
abbrev s_is_after : Stmt := topS 34
theorem sc_is_after : FnScope ["value"] ["value"] (defScope s_is_after) := ⟨rfl, rfl, rfl, by decide +kernel, rfl, by decide +kernel, by decide +kernel⟩
abbrev s_is_setting : Stmt := topS 35
theorem sc_is_setting : FnScope ["field", "value"] ["field", "value"] (defScope s_is_setting) := ⟨rfl, rfl, rfl, by decide +kernel, rfl, by decide +kernel, by decide +kernel⟩
abbrev s_as_kept : Stmt := topS 36
theorem sc_as_kept : FnScope ["field", "value"] ["field", "value"] (defScope s_as_kept) := ⟨rfl, rfl, rfl, by decide +kernel, rfl, by decide +kernel, by decide +kernel⟩
abbrev s_ascending : Stmt := topS 37
theorem sc_ascending : FnScope ["words"] ["words"] (defScope s_ascending) := ⟨rfl, rfl, rfl, by decide +kernel, rfl, by decide +kernel, by decide +kernel⟩
abbrev s_Book_dd_init : Stmt := inClass (topS 38) 0
theorem sc_Book_dd_init : FnScope ["self", "tries", "told", "factor", "equal", "sliding", "after", "keep", "given", "field"] ["self", "tries", "told", "factor", "equal", "sliding", "after", "keep"] (defScope s_Book_dd_init) := ⟨rfl, rfl, rfl, by decide +kernel, rfl, by decide +kernel, by decide +kernel⟩
abbrev s_Book_tries : Stmt := inClass (topS 38) 1
theorem sc_Book_tries : FnScope ["self"] ["self"] (defScope s_Book_tries) := ⟨rfl, rfl, rfl, by decide +kernel, rfl, by decide +kernel, by decide +kernel⟩
abbrev s_Book_told : Stmt := inClass (topS 38) 2
theorem sc_Book_told : FnScope ["self"] ["self"] (defScope s_Book_told) := ⟨rfl, rfl, rfl, by decide +kernel, rfl, by decide +kernel, by decide +kernel⟩
abbrev s_Book_factor : Stmt := inClass (topS 38) 3
theorem sc_Book_factor : FnScope ["self"] ["self"] (defScope s_Book_factor) := ⟨rfl, rfl, rfl, by decide +kernel, rfl, by decide +kernel, by decide +kernel⟩
abbrev s_Book_equal : Stmt := inClass (topS 38) 4
theorem sc_Book_equal : FnScope ["self"] ["self"] (defScope s_Book_equal) := ⟨rfl, rfl, rfl, by decide +kernel, rfl, by decide +kernel, by decide +kernel⟩
abbrev s_Book_sliding : Stmt := inClass (topS 38) 5
theorem sc_Book_sliding : FnScope ["self"] ["self"] (defScope s_Book_sliding) := ⟨rfl, rfl, rfl, by decide +kernel, rfl, by decide +kernel, by decide +kernel⟩
abbrev s_Book_after : Stmt := inClass (topS 38) 6
theorem sc_Book_after : FnScope ["self"] ["self"] (defScope s_Book_after) := ⟨rfl, rfl, rfl, by decide +kernel, rfl, by decide +kernel, by decide +kernel⟩
abbrev s_Book_keep : Stmt := inClass (topS 38) 7
theorem sc_Book_keep : FnScope ["self"] ["self"] (defScope s_Book_keep) := ⟨rfl, rfl, rfl, by decide +kernel, rfl, by decide +kernel, by decide +kernel⟩
abbrev s_Book_dd_eq : Stmt := inClass (topS 38) 9
theorem sc_Book_dd_eq : FnScope ["self", "other"] ["self", "other"] (defScope s_Book_dd_eq) := ⟨rfl, rfl, rfl, by decide +kernel, rfl, by decide +kernel, by decide +kernel⟩
abbrev s_Book_looks : Stmt := inClass (topS 38) 13
theorem sc_Book_looks : FnScope ["self"] ["self"] (defScope s_Book_looks) := ⟨rfl, rfl, rfl, by decide +kernel, rfl, by decide +kernel, by decide +kernel⟩
abbrev s_Book_is_memory : Stmt := inClass (topS 38) 18
theorem sc_Book_is_memory : FnScope ["self", "prices", "memory", "word"] ["self", "prices", "memory"] (defScope s_Book_is_memory) := ⟨rfl, rfl, rfl, by decide +kernel, rfl, by decide +kernel, by decide +kernel⟩
abbrev s_Book_is_state : Stmt := inClass (topS 38) 19
theorem sc_Book_is_state : FnScope ["self", "prices", "value", "mode", "kept", "memory"] ["self", "prices", "value"] (defScope s_Book_is_state) := ⟨rfl, rfl, rfl, by decide +kernel, rfl, by decide +kernel, by decide +kernel⟩
abbrev s_Book_check_state : Stmt := inClass (topS 38) 20
theorem sc_Book_check_state : FnScope ["self", "prices", "state"] ["self", "prices", "state"] (defScope s_Book_check_state) := ⟨rfl, rfl, rfl, by decide +kernel, rfl, by decide +kernel, by decide +kernel⟩
abbrev s_Book_plan_of : Stmt := inClass (topS 38) 21
theorem sc_Book_plan_of : FnScope ["self", "state"] ["self", "state"] (defScope s_Book_plan_of) := ⟨rfl, rfl, rfl, by decide +kernel, rfl, by decide +kernel, by decide +kernel⟩
abbrev s_Book_plan : Stmt := inClass (topS 38) 22
theorem sc_Book_plan : FnScope ["self", "prices", "state"] ["self", "prices", "state"] (defScope s_Book_plan) := ⟨rfl, rfl, rfl, by decide +kernel, rfl, by decide +kernel, by decide +kernel⟩
abbrev s_Menu_dd_init : Stmt := inClass (topS 41) 0
theorem sc_Menu_dd_init : FnScope ["self", "books", "kept", "book"] ["self", "books"] (defScope s_Menu_dd_init) := ⟨rfl, rfl, rfl, by decide +kernel, rfl, by decide +kernel, by decide +kernel⟩
abbrev s_Menu_dd_len : Stmt := inClass (topS 41) 2
theorem sc_Menu_dd_len : FnScope ["self"] ["self"] (defScope s_Menu_dd_len) := ⟨rfl, rfl, rfl, by decide +kernel, rfl, by decide +kernel, by decide +kernel⟩
abbrev s_Menu_dd_iter : Stmt := inClass (topS 41) 3
theorem sc_Menu_dd_iter : FnScope ["self"] ["self"] (defScope s_Menu_dd_iter) := ⟨rfl, rfl, rfl, by decide +kernel, rfl, by decide +kernel, by decide +kernel⟩
abbrev s_Menu_dd_getitem : Stmt := inClass (topS 41) 4
theorem sc_Menu_dd_getitem : FnScope ["self", "number"] ["self", "number"] (defScope s_Menu_dd_getitem) := ⟨rfl, rfl, rfl, by decide +kernel, rfl, by decide +kernel, by decide +kernel⟩
abbrev s_Menu_dd_contains : Stmt := inClass (topS 41) 5
theorem sc_Menu_dd_contains : FnScope ["self", "book"] ["self", "book"] (defScope s_Menu_dd_contains) := ⟨rfl, rfl, rfl, by decide +kernel, rfl, by decide +kernel, by decide +kernel⟩
abbrev s_Menu_dd_add : Stmt := inClass (topS 41) 6
theorem sc_Menu_dd_add : FnScope ["self", "other", "more", "book"] ["self", "other"] (defScope s_Menu_dd_add) := ⟨rfl, rfl, rfl, by decide +kernel, rfl, by decide +kernel, by decide +kernel⟩
abbrev s_Menu_dd_sub : Stmt := inClass (topS 41) 7
theorem sc_Menu_dd_sub : FnScope ["self", "other", "left", "book"] ["self", "other"] (defScope s_Menu_dd_sub) := ⟨rfl, rfl, rfl, by decide +kernel, rfl, by decide +kernel, by decide +kernel⟩
abbrev s_Menu_dd_le : Stmt := inClass (topS 41) 8
theorem sc_Menu_dd_le : FnScope ["self", "other", "book"] ["self", "other"] (defScope s_Menu_dd_le) := ⟨rfl, rfl, rfl, by decide +kernel, rfl, by decide +kernel, by decide +kernel⟩
abbrev s_Menu_dd_lt : Stmt := inClass (topS 41) 9
theorem sc_Menu_dd_lt : FnScope ["self", "other", "book"] ["self", "other"] (defScope s_Menu_dd_lt) := ⟨rfl, rfl, rfl, by decide +kernel, rfl, by decide +kernel, by decide +kernel⟩
abbrev s_Menu_dd_ge : Stmt := inClass (topS 41) 10
theorem sc_Menu_dd_ge : FnScope ["self", "other", "book"] ["self", "other"] (defScope s_Menu_dd_ge) := ⟨rfl, rfl, rfl, by decide +kernel, rfl, by decide +kernel, by decide +kernel⟩
abbrev s_Menu_dd_gt : Stmt := inClass (topS 41) 11
theorem sc_Menu_dd_gt : FnScope ["self", "other", "book"] ["self", "other"] (defScope s_Menu_dd_gt) := ⟨rfl, rfl, rfl, by decide +kernel, rfl, by decide +kernel, by decide +kernel⟩
abbrev s_Menu_dd_eq : Stmt := inClass (topS 41) 12
theorem sc_Menu_dd_eq : FnScope ["self", "other"] ["self", "other"] (defScope s_Menu_dd_eq) := ⟨rfl, rfl, rfl, by decide +kernel, rfl, by decide +kernel, by decide +kernel⟩
abbrev s_Menu_books : Stmt := inClass (topS 41) 13
theorem sc_Menu_books : GScope ["self", "book"] ["self"] (defScope s_Menu_books) := ⟨rfl, rfl, rfl, by decide +kernel, rfl, by decide +kernel, by decide +kernel⟩
abbrev s_check_menu : Stmt := topS 42
theorem sc_check_menu : FnScope ["menu"] ["menu"] (defScope s_check_menu) := ⟨rfl, rfl, rfl, by decide +kernel, rfl, by decide +kernel, by decide +kernel⟩
abbrev s_lw_numbers : Stmt := topS 44
theorem sc_lw_numbers : FnScope ["_law_cell_here", "_law_salt", "_law_sizes", "_law_whole", "_law_left", "_law_result", "_law_k", "_law_one"] ["_law_cell_here", "_law_salt", "_law_sizes"] (defScope s_lw_numbers) := ⟨rfl, rfl, rfl, by decide +kernel, rfl, by decide +kernel, by decide +kernel⟩
abbrev s_lw_pool : Stmt := topS 45
theorem sc_lw_pool : FnScope ["_law_cell_here", "_law_salt", "_law_many"] ["_law_cell_here", "_law_salt", "_law_many"] (defScope s_lw_pool) := ⟨rfl, rfl, rfl, by decide +kernel, rfl, by decide +kernel, by decide +kernel⟩
abbrev s_lw_draw : Stmt := topS 46
theorem sc_lw_draw : FnScope ["_law_pool_here", "_law_many", "_law_at"] ["_law_pool_here", "_law_many"] (defScope s_lw_draw) := ⟨rfl, rfl, rfl, by decide +kernel, rfl, by decide +kernel, by decide +kernel⟩
abbrev s_lw_after : Stmt := topS 47
theorem sc_lw_after : FnScope ["_law_pool_here", "_law_way"] ["_law_pool_here"] (defScope s_lw_after) := ⟨rfl, rfl, rfl, by decide +kernel, rfl, by decide +kernel, by decide +kernel⟩
abbrev s_lw_plan : Stmt := topS 48
theorem sc_lw_plan : FnScope ["_law_pool_here", "_law_most", "_law_trial", "_law_heard", "_law_plan_here"] ["_law_pool_here", "_law_most"] (defScope s_lw_plan) := ⟨rfl, rfl, rfl, by decide +kernel, rfl, by decide +kernel, by decide +kernel⟩
abbrev s_lw_made_after : Stmt := topS 49
theorem sc_lw_made_after : FnScope ["_law_ending"] ["_law_ending"] (defScope s_lw_made_after) := ⟨rfl, rfl, rfl, by decide +kernel, rfl, by decide +kernel, by decide +kernel⟩
abbrev s_lw_made_book : Stmt := topS 50
theorem sc_lw_made_book : FnScope ["_law_plan_here", "_law_ratio", "_law_ending"] ["_law_plan_here"] (defScope s_lw_made_book) := ⟨rfl, rfl, rfl, by decide +kernel, rfl, by decide +kernel, by decide +kernel⟩
abbrev s_lw_cell : Stmt := topS 51
theorem sc_lw_cell : FnScope ["_law_script", "_law_k"] ["_law_script", "_law_k"] (defScope s_lw_cell) := ⟨rfl, rfl, rfl, by decide +kernel, rfl, by decide +kernel, by decide +kernel⟩
abbrev s_lw_lowest : Stmt := topS 52
theorem sc_lw_lowest : FnScope ["_law_top", "_law_under", "_law_one", "_law_two"] ["_law_top", "_law_under"] (defScope s_lw_lowest) := ⟨rfl, rfl, rfl, by decide +kernel, rfl, by decide +kernel, by decide +kernel⟩
abbrev s_lw_plans : Stmt := topS 53
theorem sc_lw_plans : FnScope ["_law_script", "_law_many", "_law_k"] ["_law_script", "_law_many"] (defScope s_lw_plans) := ⟨rfl, rfl, rfl, by decide +kernel, rfl, by decide +kernel, by decide +kernel⟩
abbrev s_lw_key : Stmt := topS 54
theorem sc_lw_key : FnScope ["_law_plan_here", "_law_heard", "_law_ratio", "_law_ending"] ["_law_plan_here"] (defScope s_lw_key) := ⟨rfl, rfl, rfl, by decide +kernel, rfl, by decide +kernel, by decide +kernel⟩
abbrev s_lw_unlike : Stmt := topS 55
theorem sc_lw_unlike : FnScope ["_law_plans_here", "_law_found", "_law_plan_here", "_law_other"] ["_law_plans_here"] (defScope s_lw_unlike) := ⟨rfl, rfl, rfl, by decide +kernel, rfl, by decide +kernel, by decide +kernel⟩
abbrev s_lw_menu : Stmt := topS 56
theorem sc_lw_menu : FnScope ["_law_books", "_law_menu_here", "_law_book"] ["_law_books"] (defScope s_lw_menu) := ⟨rfl, rfl, rfl, by decide +kernel, rfl, by decide +kernel, by decide +kernel⟩
abbrev s_lw_refused : Stmt := topS 57
theorem sc_lw_refused : FnScope ["_law_make", "_law_value", "e"] ["_law_make", "_law_value"] (defScope s_lw_refused) := ⟨rfl, rfl, rfl, by decide +kernel, rfl, by decide +kernel, by decide +kernel⟩
abbrev s_lw_direct : Stmt := topS 58
theorem sc_lw_direct : FnScope ["_law_one", "_law_two", "_law_three", "_law_menu_here"] ["_law_one", "_law_two", "_law_three"] (defScope s_lw_direct) := ⟨rfl, rfl, rfl, by decide +kernel, rfl, by decide +kernel, by decide +kernel⟩
abbrev s_lw_law : Stmt := topS 59
theorem sc_lw_law : FnScope ["_law_script", "_law_plans_here", "_law_books", "_law_plan_here", "_law_menu_here", "_law_many", "_law_k", "_law_value"] ["_law_script"] (defScope s_lw_law) := ⟨rfl, rfl, rfl, by decide +kernel, rfl, by decide +kernel, by decide +kernel⟩
end Ps

set_option maxHeartbeats 4000000
/-! Own operators over the hand layer: the operand on the left is an own instance; or an int on the left and an own instance on the right. -/
namespace Ps
open PySem PySem.Spec PyProof.Rows PySem.W L2

section
variable {prog : Program} {w : World} {A : Around} {E : Value → Shared → Prop} {s : Shared} {K : Frag} {x C L f f' : Addr} {h₀ : Heap} {m : Str → Option Value} {ox : Obj} {od : Option Obj}

theorem asInt_inst {M : Model} {Q : Option Int → Shared → Prop} {dx : Addr} (hx : s.heap.get? x = some (instObj C dx)) (h : Q none s) : wpAny M A (asInt? (.ref x)) Q E s := by
  unfold asInt?
  exact wpAny_bind (wpAny_load hx (wpAny_pure h))

theorem dec_add {t : Tok} {i : Int} {dx : Addr} {Q : Value → Shared → Prop} (hx : s.heap.get? x = some (instObj C dx)) (h : Q .notImplemented s) :
    wpAny (model prog w) A (call (.builtin "int.__add__") [.int i t, .ref x]) Q E s := by
  refine GQ.call_here F.slot_int_add (typeIs_int s i t) F.entry_int_add (F.args_int_add_2 _ _) ?_
  obtain ⟨hp, g, d, tk, os⟩ := s
  wp_walk using asInt_inst hx
  exact h
theorem dec_sub {t : Tok} {i : Int} {dx : Addr} {Q : Value → Shared → Prop} (hx : s.heap.get? x = some (instObj C dx)) (h : Q .notImplemented s) :
    wpAny (model prog w) A (call (.builtin "int.__sub__") [.int i t, .ref x]) Q E s := by
  refine GQ.call_here F.slot_int_sub (typeIs_int s i t) F.entry_int_sub (F.args_int_sub_2 _ _) ?_
  obtain ⟨hp, g, d, tk, os⟩ := s
  wp_walk using asInt_inst hx
  exact h
theorem dec_mul {t : Tok} {i : Int} {dx : Addr} {Q : Value → Shared → Prop} (hx : s.heap.get? x = some (instObj C dx)) (h : Q .notImplemented s) :
    wpAny (model prog w) A (call (.builtin "int.__mul__") [.int i t, .ref x]) Q E s := by
  refine GQ.call_here F.slot_int_mul (typeIs_int s i t) F.entry_int_mul (F.args_int_mul_2 _ _) ?_
  obtain ⟨hp, g, d, tk, os⟩ := s
  wp_walk using asInt_inst hx
  exact h
theorem dec_lt {t : Tok} {i : Int} {dx : Addr} {Q : Value → Shared → Prop} (hx : s.heap.get? x = some (instObj C dx)) (h : Q .notImplemented s) :
    wpAny (model prog w) A (call (.builtin "int.__lt__") [.int i t, .ref x]) Q E s := by
  refine GQ.call_here F.slot_int_lt (typeIs_int s i t) F.entry_int_lt (F.args_int_lt_2 _ _) ?_
  obtain ⟨hp, g, d, tk, os⟩ := s
  wp_walk using asInt_inst hx
  exact h
theorem dec_le {t : Tok} {i : Int} {dx : Addr} {Q : Value → Shared → Prop} (hx : s.heap.get? x = some (instObj C dx)) (h : Q .notImplemented s) :
    wpAny (model prog w) A (call (.builtin "int.__le__") [.int i t, .ref x]) Q E s := by
  refine GQ.call_here F.slot_int_le (typeIs_int s i t) F.entry_int_le (F.args_int_le_2 _ _) ?_
  obtain ⟨hp, g, d, tk, os⟩ := s
  wp_walk using asInt_inst hx
  exact h
theorem dec_gt {t : Tok} {i : Int} {dx : Addr} {Q : Value → Shared → Prop} (hx : s.heap.get? x = some (instObj C dx)) (h : Q .notImplemented s) :
    wpAny (model prog w) A (call (.builtin "int.__gt__") [.int i t, .ref x]) Q E s := by
  refine GQ.call_here F.slot_int_gt (typeIs_int s i t) F.entry_int_gt (F.args_int_gt_2 _ _) ?_
  obtain ⟨hp, g, d, tk, os⟩ := s
  wp_walk using asInt_inst hx
  exact h
theorem dec_ge {t : Tok} {i : Int} {dx : Addr} {Q : Value → Shared → Prop} (hx : s.heap.get? x = some (instObj C dx)) (h : Q .notImplemented s) :
    wpAny (model prog w) A (call (.builtin "int.__ge__") [.int i t, .ref x]) Q E s := by
  refine GQ.call_here F.slot_int_ge (typeIs_int s i t) F.entry_int_ge (F.args_int_ge_2 _ _) ?_
  obtain ⟨hp, g, d, tk, os⟩ := s
  wp_walk using asInt_inst hx
  exact h
theorem dec_eq {t : Tok} {i : Int} {dx : Addr} {Q : Value → Shared → Prop} (hx : s.heap.get? x = some (instObj C dx)) (h : Q .notImplemented s) :
    wpAny (model prog w) A (call (.builtin "int.__eq__") [.int i t, .ref x]) Q E s := by
  refine GQ.call_here F.slot_int_eq (typeIs_int s i t) F.entry_int_eq (F.args_int_eq_2 _ _) ?_
  obtain ⟨hp, g, d, tk, os⟩ := s
  wp_walk using asInt_inst hx
  exact h
theorem dec_ne {t : Tok} {i : Int} {dx : Addr} {Q : Value → Shared → Prop} (hx : s.heap.get? x = some (instObj C dx)) (h : Q .notImplemented s) :
    wpAny (model prog w) A (call (.builtin "int.__ne__") [.int i t, .ref x]) Q E s := by
  refine GQ.call_here F.slot_int_ne (typeIs_int s i t) F.entry_int_ne (F.args_int_ne_2 _ _) ?_
  obtain ⟨hp, g, d, tk, os⟩ := s
  wp_walk using asInt_inst hx
  exact h

/-- an int on the left, an own instance on the right: the reflected method -/
theorem binop_R {op : Operator} {t : Tok} {i : Int} {id : String} {Q : Value → Shared → Prop} (X : K.In s.heap) (I : InstAt s.heap x ox C od) (hc : selfFirst K C = true)
    (hs : findIn K (.ref C) (PySem.dunder op.info.2) = some (some (.ref f'))) (hr : findIn K (.ref C) (dunderR op.info.2) = some (some (.ref f))) (hf : isFn K (.ref f) = true)
    (hsub : subIn K (.ref C) (.type "int") = some false) (hfl : fillsNumberSlot (.type "int") op.info.2 = pure true) (sl : Slot "int" (PySem.dunder op.info.2) id)
    (hd : ∀ Q : Value → Shared → Prop, Q .notImplemented s → wpAny (model prog w) A (call (.builtin id) [.int i t, .ref x]) Q E s)
    (h : wpAny (model prog w) A (call (.ref f) [.ref x, .int i t]) (PySem.W.CmpBack Q) E s) : wpAny (model prog w) A (binaryOp op (.int i t) (.ref x)) Q E s := by
  obtain ⟨cd, rest, hcd, hm⟩ := ksp_first hc
  rcases hi : op.info with ⟨sym, nm'⟩
  rw [hi] at hs hr hfl sl
  dsimp only at hs hr hfl sl
  have one := ksp_try X I hr hf h
  obtain ⟨hh, g, d, tt, os⟩ := s
  have L1 : Looks (model prog w) hh (typeOf (.ref x)) (.ref C) := I.type
  have L2 : Looks (model prog w) hh (typeOf (.int i t)) (.type "int") := Looks.of_pure rfl
  have L3 : Looks (model prog w) hh (fillsNumberSlot (.ref C) nm') true := fills_K X hcd hm hs
  have L4 : Looks (model prog w) hh (fillsNumberSlot (.type "int") nm') true := Looks.of_pure hfl
  have L5 : Looks (model prog w) hh (isSubtype (.ref C) (.type "int")) false := looks_subIn X hsub
  have L7 : Looks (model prog w) hh (numberSlotInPython (.type "int") nm') false := Looks.of_pure rfl
  have dec : wpAny (model prog w) A (tryMethod (.int i t) (PySem.dunder nm') (.ref x)) (fun r s' => r = none ∧ s' = ⟨hh, g, d, tt, os⟩) E ⟨hh, g, d, tt, os⟩ :=
    wpAny_tryMethod_declines (typeIs_int _ i t) sl (hd _ ⟨rfl, rfl, rfl⟩)
  have hne : (Value.type "int" == Value.ref C) = false := Bool.eq_false_iff.mpr fun q => by cases beq_iff_eq.mp q
  simp only [binaryOp, hi]
  refine wpAny_holding (wpAny_bind ?_)
  unfold binaryOp1
  refine wpAny_bind (L2.at (wpAny_bind (L1.at (wpAny_bind (L4.at ?_)))))
  simp only [hne, Bool.false_eq_true, if_false]
  ksp_lk
  refine wpAny_mono dec (fun r s' hr' => ?_) fun _ _ e => e
  obtain ⟨rfl, rfl⟩ := hr'
  ksp_lk
  refine wpAny_mono one (fun r s' hr' => ?_) fun _ _ e => e
  obtain ⟨v, rfl, hq⟩ := hr'
  ksp_lk
  exact hq
end

/-! ### over the layer -/
section
variable {X : Cx} {CX : CXT} {k : Nat} {f C f' : Addr} {fd : FuncData} {ps : List Str} {sp : Sp} {E : XK}

theorem cmpBack {pins : List (Addr × Obj)} {σ : L2.St} {Q : VK} {u : Value} {s : Shared} (h : EP X pins σ Q u s) : PySem.W.CmpBack (EP X pins σ Q) u s := by
  obtain ⟨v, H', I, r, q⟩ := id h
  cases v with
  | non => cases (show u = Value.none from r); exact h
  | bl b => cases (show u = Value.bool b from r); exact h
  | int i => obtain ⟨t, e⟩ := (show ∃ t, u = Value.int i t from r); cases e; exact h
  | str x => obtain ⟨t, e⟩ := (show ∃ t, u = Value.str x t from r); cases e; exact h
  | byt b => obtain ⟨t, e⟩ := (show ∃ t, u = Value.bytes b t from r); cases e; exact h
  | flt b => obtain ⟨t, e⟩ := (show ∃ t, u = Value.float b t from r); cases e; exact h
  | ref a => cases (show u = Value.ref a from r); exact h
  | ty n => cases (show u = Value.type n from r); exact h

/-- the class at C has the method nm at f -/
structure OwnOp (K : Frag) (C f : Addr) (nm : Str) : Prop where
  sf : selfFirst K C = true
  fn : findIn K (.ref C) nm = some (some (.ref f))
  isf : isFn K (.ref f) = true

/-- what is said of an own instance -/
def InsC (C : Addr) (H : Hp) (v : V) : Prop := ∃ a dx fs, v = .ref a ∧ H a = some (.ins C dx fs)
def rOwn (C : Addr) (sp : Sp) (E : XK) : R2 := fun x y H Q => InsC C H x ∧ InsC C H y ∧ sp [x, y] H Q E
def rOwnI (C : Addr) (sp : Sp) (E : XK) : R2 := fun x y H Q => InsC C H x ∧ (∃ i, y = .int i) ∧ sp [x, y] H Q E
def rRefI (C : Addr) (sp : Sp) (E : XK) : R2 := fun x y H Q => (∃ i, x = .int i) ∧ InsC C H y ∧ sp [y, x] H Q E

theorem op_own {op : Operator} (O : OwnOp X.K C f (PySem.dunder op.info.2)) (G : FnOk X.prog X.w X.K X.mg X.base CX k f fd ps sp) (hr : Room k X.A) (hb : Binds X.K fd ps []) (hx : Passes CX X E) : OpR X (binaryOp op) (rOwn C sp E) := by
  intro pins s σ H x y v u Q I rx ry h
  obtain ⟨⟨a, dx, fs, rfl, ha⟩, ⟨b, dy, gs, rfl, hb'⟩, h⟩ := h
  cases (show v = Value.ref a from rx)
  cases (show u = Value.ref b from ry)
  obtain ⟨mA, J, _⟩ := ins_get I.hok ha
  obtain ⟨mB, J', _⟩ := ins_get I.hok hb'
  obtain ⟨od, J, _⟩ := J.look
  obtain ⟨od', J', _⟩ := J'.look
  obtain ⟨m, hF⟩ := I.fr
  refine binop_K hF I.ok.mod.kin J J'.type O.sf O.fn O.isf ?_
  exact wpAny_mono (run_fn (us := [.ref a, .ref b]) (vs := [.ref a, .ref b]) (dvs := []) G hr hb .nil hx I (.cons rfl (.cons rfl .nil)) h) (fun _ _ z => cmpBack z) fun _ _ z => z

theorem op_ownI {op : Operator} {fo ro rc : Option Value} (O : OwnOp X.K C f (PySem.dunder op.info.2)) (hrc : findIn X.K (.ref C) (dunderR op.info.2) = some rc) (hp : rc = none ∨ ∃ g : Addr, rc = some (.ref g))
    (h1 : findIn X.K (.type "int") (PySem.dunder op.info.2) = some fo) (h2 : findIn X.K (.type "int") (dunderR op.info.2) = some ro) (hsub : subIn X.K (.type "int") (.ref C) = some false)
    (G : FnOk X.prog X.w X.K X.mg X.base CX k f fd ps sp) (hr : Room k X.A) (hb : Binds X.K fd ps []) (hx : Passes CX X E) : OpR X (binaryOp op) (rOwnI C sp E) := by
  intro pins s σ H x y v u Q I rx ry h
  obtain ⟨⟨a, dx, fs, rfl, ha⟩, ⟨i, rfl⟩, h⟩ := h
  cases (show v = Value.ref a from rx)
  obtain ⟨t, e⟩ := (show ∃ t, u = Value.int i t from ry)
  cases e
  obtain ⟨mA, J, _⟩ := ins_get I.hok ha
  obtain ⟨od, J, _⟩ := J.look
  obtain ⟨m, hF⟩ := I.fr
  refine ksp_binT hF I.ok.mod.kin J (T := "int") rfl O.sf O.fn O.isf hrc hp h1 h2 hsub ?_
  exact wpAny_mono (run_fn (us := [.ref a, .int i t]) (vs := [.ref a, .int i]) (dvs := []) G hr hb .nil hx I (.cons rfl (.cons ⟨t, rfl⟩ .nil)) h) (fun _ _ z => cmpBack z) fun _ _ z => z

theorem op_refI {op : Operator} {id : String} (O : OwnOp X.K C f (dunderR op.info.2)) (hs : findIn X.K (.ref C) (PySem.dunder op.info.2) = some (some (.ref f'))) (hsub : subIn X.K (.ref C) (.type "int") = some false)
    (hfl : fillsNumberSlot (.type "int") op.info.2 = pure true) (sl : Slot "int" (PySem.dunder op.info.2) id)
    (hd : ∀ {s : Shared} {x C dx : Addr} {t : Tok} {i : Int} {Q : Value → Shared → Prop}, s.heap.get? x = some (instObj C dx) → Q .notImplemented s → wpAny (model X.prog X.w) X.A (call (.builtin id) [.int i t, .ref x]) Q X.xe s)
    (G : FnOk X.prog X.w X.K X.mg X.base CX k f fd ps sp) (hr : Room k X.A) (hb : Binds X.K fd ps []) (hx : Passes CX X E) : OpR X (binaryOp op) (rRefI C sp E) := by
  intro pins s σ H x y v u Q I rx ry h
  obtain ⟨⟨i, rfl⟩, ⟨a, dx, fs, rfl, ha⟩, h⟩ := h
  cases (show u = Value.ref a from ry)
  obtain ⟨t, e⟩ := (show ∃ t, v = Value.int i t from rx)
  cases e
  obtain ⟨mA, J0, _⟩ := ins_get I.hok ha
  obtain ⟨_, _, _, hget, _⟩ := (show ObjOk X.prog X.w H s.heap a (.ins C dx fs) from I.hok a _ ha)
  obtain ⟨od, J, _⟩ := J0.look
  refine binop_R I.kIn J O.sf hs O.fn O.isf hsub hfl sl (fun Q q => hd hget q) ?_
  exact wpAny_mono (run_fn (us := [.ref a, .int i t]) (vs := [.ref a, .int i]) (dvs := []) G hr hb .nil hx I (.cons rfl (.cons ⟨t, rfl⟩ .nil)) h) (fun _ _ z => cmpBack z) fun _ _ z => z

/-- -x, abs(x) -/
def rUOwn (C : Addr) (sp : Sp) (E : XK) : V → Hp → VK → Prop := fun x H Q => InsC C H x ∧ sp [x] H Q E
theorem un_own (O : OwnOp X.K C f "__neg__") (G : FnOk X.prog X.w X.K X.mg X.base CX k f fd ps sp) (hr : Room k X.A) (hb : Binds X.K fd ps []) (hx : Passes CX X E) : UnR X (unaryOp .USub) (rUOwn C sp E) := by
  intro pins s σ H x v Q I rx h
  obtain ⟨⟨a, dx, fs, rfl, ha⟩, h⟩ := h
  cases (show v = Value.ref a from rx)
  obtain ⟨mA, J, _⟩ := ins_get I.hok ha
  obtain ⟨od, J, _⟩ := J.look
  obtain ⟨m, hF⟩ := I.fr
  exact ksp_neg hF I.ok.mod.kin J O.fn O.isf (run_fn (us := [.ref a]) (vs := [.ref a]) (dvs := []) G hr hb .nil hx I (.cons rfl .nil) h)

/-- the callee runs, called out of a builtin -/
theorem run_fn1 {pins : List (Addr × Obj)} {σ : L2.St} {H : Hp} {s : Shared} {Q : VK} {us : List Value} {vs : List V} (F : FnOk X.prog X.w X.K X.mg X.base CX k f fd ps sp) (hr : Room (k + 1) X.A) (hb : Binds X.K fd ps []) (hx : Passes CX X E)
    (I : L2.Inv X pins σ H s) (r : Vals vs us) (h : sp vs H Q E) : wpAny (model X.prog X.w) X.A.in1 (call (.ref f) us) (EP X pins σ Q) X.xe s := by
  have hl : (us ++ []).length = ps.length := by rw [List.append_nil, ← r.length]; exact F.len _ _ _ _ h
  have hb' := hb s us I.kIn hl
  rw [List.append_nil] at hb'
  refine wpAny_call (codeAny_mono (F.run X.A.in1 X.stack s H ⟨us, []⟩ us vs Q E hr.in1 I.env0.in1 hb' r h) fun r s' hq => ?_)
  cases r with
  | error e => exact hx pins σ H s e s' I hq
  | ok fl =>
    cases fl with
    | ret u => exact I.after hq
    | next => exact False.elim hq
    | brk => exact False.elim hq
    | cont => exact False.elim hq
theorem call_absO (O : OwnOp X.K C f "__abs__") (G : FnOk X.prog X.w X.K X.mg X.base CX k f fd ps sp) (hr : Room (k + 1) X.A) (hb : Binds X.K fd ps []) (hx : Passes CX X E) : CallR X (.builtin "abs") (fun xs H Q => ∃ x, xs = [x] ∧ InsC C H x ∧ sp [x] H Q E) := by
  intro pins s σ H xs us Q I r h
  obtain ⟨x, rfl, ⟨a, dx, fs, rfl, ha⟩, h⟩ := h
  obtain ⟨u, rfl, r1⟩ := vals1 r
  cases (show u = Value.ref a from r1)
  obtain ⟨mA, J, _⟩ := ins_get I.hok ha
  obtain ⟨od, J, _⟩ := J.look
  refine PySem.Calls.call_function_entry kind_abs plain_abs entry_abs (args_abs _) ?_
  unfold Builtin.«abs»
  refine wpAny_bind (m := oneArg "abs" _) (wpAny_pure ?_)
  refine wpAny_bind (special_fn I.kIn J O.fn (beq_iff_eq.mp O.isf) (wpAny_mono (run_fn1 (us := [.ref a]) (vs := [.ref a]) G hr hb hx I (.cons rfl .nil) h) (fun v s' z => ?_) fun _ _ z => z))
  exact wpAny_pure ⟨_, rfl, z⟩
end
end Ps

/-! Defs, methods, classes, operators, properties of the text as things to be called, their addresses hidden. -/
namespace Ps
open PySem PySem.Spec PyProof.Rows PySem.W L2

/-- where one stands, the same for all defs of the text -/
structure Cz where
  P : Program
  w : World
  K : Frag
  mg : Str → Option Value
  base : Heap
abbrev Cz.ok (Z : Cz) (CX : CXT) (k : Nat) (f : Addr) (fd : FuncData) (ps : List Str) (sp : Sp) : Prop := FnOk Z.P Z.w Z.K Z.mg Z.base CX k f fd ps sp
/-- a def -/
def Cal (Z : Cz) (CX : CXT) (k : Nat) (x : Str) (ps : List Str) (dvs : List V) (sp : Sp) : Prop := ∃ f fd ds, Z.ok CX k f fd ps sp ∧ Z.mg x = some (.ref f) ∧ keepIn Z.K (.ref f) = true ∧ Binds Z.K fd ps ds ∧ Vals dvs ds
/-- a method m of the class at C -/
def CalM (Z : Cz) (CX : CXT) (k : Nat) (C : Addr) (m : Str) (ps : List Str) (dvs : List V) (sp : Sp) : Prop := ∃ f fd ds, Z.ok CX k f fd ps sp ∧ Meth Z.K C m f ∧ Cls Z.K C ∧ Binds Z.K fd ps ds ∧ Vals dvs ds
/-- the class at C, made by its __init__ -/
def CalC (Z : Cz) (CX : CXT) (k : Nat) (C : Addr) (x : Str) (ps : List Str) (dvs : List V) (sp : Sp) : Prop := ∃ f fd ds, Z.ok CX k f fd ps sp ∧ Mk Z.K C f ∧ Z.mg x = some (.ref C) ∧ Binds Z.K fd ps ds ∧ Vals dvs ds
/-- a special method nm of the class at C -/
def CalS (Z : Cz) (CX : CXT) (k : Nat) (C : Addr) (nm : Str) (ps : List Str) (sp : Sp) : Prop := ∃ f fd, Z.ok CX k f fd ps sp ∧ OwnOp Z.K C f nm ∧ Binds Z.K fd ps []
/-- a property -/
def CalP (Z : Cz) (CX : CXT) (k : Nat) (C : Addr) (nm : Str) (sp : Sp) : Prop := ∃ p g fd ds, Z.ok CX k g fd ["self"] sp ∧ PropOf Z.K C nm p g ∧ Cls Z.K C ∧ Binds Z.K fd ["self"] ds ∧ Vals [] ds

/-- a body stands in Z -/
structure InZ (Z : Cz) (X : Cx) : Prop where
  P : X.prog = Z.P
  w : X.w = Z.w
  K : X.K = Z.K
  mg : X.mg = Z.mg
  base : X.base = Z.base

section
variable {Z : Cz} {X : Cx} {CX : CXT} {k : Nat} {C : Addr} {ps : List Str} {sp : Sp} {dvs : List V} {E : XK} {x m nm : Str} {p pos apos : Pos} {e o a b : Expr} {es : List Expr} {ta tb : TE} {t : TA}
theorem InZ.ok (z : InZ Z X) {f : Addr} {fd : FuncData} (G : Z.ok CX k f fd ps sp) : FnOk X.prog X.w X.K X.mg X.base CX k f fd ps sp := by
  obtain ⟨h1, h2, h3, h4, h5⟩ := z
  rw [h1, h2, h3, h4, h5]
  exact G
theorem pe_cal (c : Cal Z CX k x ps dvs sp) (hr : Room k X.A) (hg : Gl X x) (hx : Passes CX X E) (ha : PA X (e :: es) t) (z : InZ Z X := by exact ⟨rfl, rfl, rfl, rfl, rfl⟩)
    (hdb : (x == ("__debug__" : Str)) = false := by decide) (he : starEach (e :: es) X.env = (false, eval e X.env) :: starEach es X.env := by rfl) (hpl : (backTo pos (starEach es X.env)).any (·.1) = false := by rfl) :
    PE X (.Call (.Name x p) (e :: es) [] pos) (tCall sp dvs E t) := by
  obtain ⟨f, fd, ds, G, h1, h2, h3, h4⟩ := c
  exact pe_call (z.ok G) hr hg (by rw [z.mg]; exact h1) (by rw [z.K]; exact h2) (by rw [z.K]; exact h3) h4 hx ha hdb he hpl
theorem pe_cal0 (c : Cal Z CX k x ps dvs sp) (hr : Room k X.A) (hg : Gl X x) (hx : Passes CX X E) (z : InZ Z X := by exact ⟨rfl, rfl, rfl, rfl, rfl⟩)
    (hdb : (x == ("__debug__" : Str)) = false := by decide) : PE X (.Call (.Name x p) [] [] pos) (tCall sp dvs E tNil) := by
  obtain ⟨f, fd, ds, G, h1, h2, h3, h4⟩ := c
  exact pe_call0 (z.ok G) hr hg (by rw [z.mg]; exact h1) (by rw [z.K]; exact h2) (by rw [z.K]; exact h3) h4 hx hdb
theorem pe_calM {pl : Sem Bool} (c : CalM Z CX k C m ps dvs sp) (hr : Room k X.A) (hx : Passes CX X E) (he : PE X o ta) (ha : PA X (e :: es) t) (z : InZ Z X := by exact ⟨rfl, rfl, rfl, rfl, rfl⟩)
    (hst : starEach (e :: es) X.env = (false, eval e X.env) :: starEach es X.env := by rfl) (hpl : (backTo pos (starEach es X.env)).any (·.1) = false := by rfl)
    (ht : eval (.Call (.Attribute o m apos) (e :: es) [] pos) X.env = (do
      let ov ← eval o X.env
      standAt apos.atName
      let (f, first) ← holding [ov] (getMethod ov m pl)
      callWith pos f first (backTo pos (starEach (e :: es) X.env)) (backToKw pos (keywordEach [] X.env))) := by rfl) :
    PE X (.Call (.Attribute o m apos) (e :: es) [] pos) (tMeth C m sp dvs E ta t) := by
  obtain ⟨f, fd, ds, G, h1, h2, h3, h4⟩ := c
  exact pe_meth (pl := pl) he (by rw [z.K]; exact h2) (by rw [z.K]; exact h1) (z.ok G) hr (by rw [z.K]; exact h3) h4 hx ha hst hpl ht
theorem pe_calM0 {pl : Sem Bool} (c : CalM Z CX k C m ps dvs sp) (hr : Room k X.A) (hx : Passes CX X E) (he : PE X o ta) (z : InZ Z X := by exact ⟨rfl, rfl, rfl, rfl, rfl⟩)
    (ht : eval (.Call (.Attribute o m apos) [] [] pos) X.env = (do
      let ov ← eval o X.env
      standAt apos.atName
      let (f, first) ← holding [ov] (getMethod ov m pl)
      callWith pos f first (backTo pos (starEach [] X.env)) (backToKw pos (keywordEach [] X.env))) := by rfl) :
    PE X (.Call (.Attribute o m apos) [] [] pos) (tMeth C m sp dvs E ta tNil) := by
  obtain ⟨f, fd, ds, G, h1, h2, h3, h4⟩ := c
  exact pe_meth0 (pl := pl) he (by rw [z.K]; exact h2) (by rw [z.K]; exact h1) (z.ok G) hr (by rw [z.K]; exact h3) h4 hx ht
theorem pe_calC (c : CalC Z CX k C x ps dvs sp) (hr : Room (k + 1) X.A) (hg : Gl X x) (hx : Passes CX X E) (ha : PA X (e :: es) t) (z : InZ Z X := by exact ⟨rfl, rfl, rfl, rfl, rfl⟩)
    (hdb : (x == ("__debug__" : Str)) = false := by decide) (he : starEach (e :: es) X.env = (false, eval e X.env) :: starEach es X.env := by rfl) (hpl : (backTo pos (starEach es X.env)).any (·.1) = false := by rfl) :
    PE X (.Call (.Name x p) (e :: es) [] pos) (tMake C sp dvs E t) := by
  obtain ⟨f, fd, ds, G, h1, h2, h3, h4⟩ := c
  exact pe_make (by rw [z.K]; exact h1) (z.ok G) hr hg (by rw [z.mg]; exact h2) (by rw [z.K]; exact h3) h4 hx ha hdb he hpl
theorem pe_calP (c : CalP Z CX k C nm sp) (hr : Room (k + 1) X.A) (hx : Passes CX X.nox E) (he : PE X e ta) (hab : attributeBase e nm X.env (eval e X.env) = eval e X.env) (z : InZ Z X := by exact ⟨rfl, rfl, rfl, rfl, rfl⟩) : PE X (.Attribute e nm pos) (tProp C sp [] E ta) := by
  obtain ⟨p, g, fd, ds, G, h1, h2, h3, h4⟩ := c
  exact pe_prop he (by rw [z.K]; exact h2) (by rw [z.K]; exact h1) (z.ok G) hr (by rw [z.K]; exact h3) h4 hx hab

/-- what is known of the number methods of a class and of int's -/
structure NumF (K : Frag) (C : Addr) (nm : String) : Prop where
  l : ∃ f, findIn K (.ref C) (PySem.dunder nm) = some (some (.ref f))
  r : ∃ f, findIn K (.ref C) (dunderR nm) = some (some (.ref f))
  il : ∃ o, findIn K (.type "int") (PySem.dunder nm) = some o
  ir : ∃ o, findIn K (.type "int") (dunderR nm) = some o
  sub : subIn K (.type "int") (.ref C) = some false
  sup : subIn K (.ref C) (.type "int") = some false
/-- a number on the right: x + y, x an own instance, y one or an int -/
def rNum (C : Addr) (sp : Sp) (E : XK) : R2 := fun x y H Q => InsC C H x ∧ (InsC C H y ∨ ∃ i, y = .int i) ∧ sp [x, y] H Q E
theorem op_num {op : Operator} (c : CalS Z CX k C (PySem.dunder op.info.2) ps sp) (N : NumF Z.K C op.info.2) (hr : Room k X.A) (hx : Passes CX X E) (z : InZ Z X := by exact ⟨rfl, rfl, rfl, rfl, rfl⟩) : OpR X (binaryOp op) (rNum C sp E) := by
  obtain ⟨f, fd, G, h1, h2⟩ := c
  obtain ⟨_, ⟨fr, hfr⟩, ⟨o1, ho1⟩, ⟨o2, ho2⟩, hs1, hs2⟩ := N
  have z' := z
  obtain ⟨e1, e2, e3, e4, e5⟩ := z
  intro pins s σ H x y v u Q I rx ry h
  obtain ⟨hx', hy | hy, hsp⟩ := h
  · exact op_own (by rw [e3]; exact h1) (z'.ok G) hr (by rw [e3]; exact h2) hx pins s σ H x y v u Q I rx ry ⟨hx', hy, hsp⟩
  · exact op_ownI (rc := some (.ref fr)) (by rw [e3]; exact h1) (by rw [e3]; exact hfr) (.inr ⟨fr, rfl⟩) (by rw [e3]; exact ho1) (by rw [e3]; exact ho2) (by rw [e3]; exact hs1) (z'.ok G) hr (by rw [e3]; exact h2) hx pins s σ H x y v u Q I rx ry ⟨hx', hy, hsp⟩
theorem op_rev {op : Operator} {id : String} (c : CalS Z CX k C (dunderR op.info.2) ps sp) (N : NumF Z.K C op.info.2) (hfl : fillsNumberSlot (.type "int") op.info.2 = pure true) (sl : Slot "int" (PySem.dunder op.info.2) id)
    (hd : ∀ {s : Shared} {x C dx : Addr} {t : Tok} {i : Int} {Q : Value → Shared → Prop}, s.heap.get? x = some (instObj C dx) → Q .notImplemented s → wpAny (model X.prog X.w) X.A (call (.builtin id) [.int i t, .ref x]) Q X.xe s)
    (hr : Room k X.A) (hx : Passes CX X E) (z : InZ Z X := by exact ⟨rfl, rfl, rfl, rfl, rfl⟩) : OpR X (binaryOp op) (rRefI C sp E) := by
  obtain ⟨f, fd, G, h1, h2⟩ := c
  obtain ⟨⟨fl, hfl'⟩, _, _, _, hs1, hs2⟩ := N
  have z' := z
  obtain ⟨e1, e2, e3, e4, e5⟩ := z
  exact op_refI (f' := fl) (by rw [e3]; exact h1) (by rw [e3]; exact hfl') (by rw [e3]; exact hs2) hfl sl hd (z'.ok G) hr (by rw [e3]; exact h2) hx
theorem op_radd (c : CalS Z CX k C "__radd__" ps sp) (N : NumF Z.K C "add") (hr : Room k X.A) (hx : Passes CX X E) (z : InZ Z X := by exact ⟨rfl, rfl, rfl, rfl, rfl⟩) : OpR X (binaryOp .Add) (rRefI C sp E) :=
  op_rev (op := .Add) c N F.fills_int_add F.slot_int_add (fun h q => dec_add h q) hr hx z
theorem op_rsub (c : CalS Z CX k C "__rsub__" ps sp) (N : NumF Z.K C "sub") (hr : Room k X.A) (hx : Passes CX X E) (z : InZ Z X := by exact ⟨rfl, rfl, rfl, rfl, rfl⟩) : OpR X (binaryOp .Sub) (rRefI C sp E) :=
  op_rev (op := .Sub) c N F.fills_int_sub F.slot_int_sub (fun h q => dec_sub h q) hr hx z
theorem op_rmul (c : CalS Z CX k C "__rmul__" ps sp) (N : NumF Z.K C "mul") (hr : Room k X.A) (hx : Passes CX X E) (z : InZ Z X := by exact ⟨rfl, rfl, rfl, rfl, rfl⟩) : OpR X (binaryOp .Mult) (rRefI C sp E) :=
  op_rev (op := .Mult) c N F.fills_int_mul F.slot_int_mul (fun h q => dec_mul h q) hr hx z
theorem un_cal (c : CalS Z CX k C "__neg__" ps sp) (hr : Room k X.A) (hx : Passes CX X E) (z : InZ Z X := by exact ⟨rfl, rfl, rfl, rfl, rfl⟩) : UnR X (unaryOp .USub) (rUOwn C sp E) := by
  obtain ⟨f, fd, G, h1, h2⟩ := c
  have z' := z
  obtain ⟨e1, e2, e3, e4, e5⟩ := z
  exact un_own (by rw [e3]; exact h1) (z'.ok G) hr (by rw [e3]; exact h2) hx
theorem abs_cal (c : CalS Z CX k C "__abs__" ps sp) (hr : Room (k + 1) X.A) (hx : Passes CX X E) (z : InZ Z X := by exact ⟨rfl, rfl, rfl, rfl, rfl⟩) : CallR X (.builtin "abs") (fun xs H Q => ∃ x, xs = [x] ∧ InsC C H x ∧ sp [x] H Q E) := by
  obtain ⟨f, fd, G, h1, h2⟩ := c
  have z' := z
  obtain ⟨e1, e2, e3, e4, e5⟩ := z
  exact call_absO (by rw [e3]; exact h1) (z'.ok G) hr (by rw [e3]; exact h2) hx
end
/-! ### tests -/
theorem iteD {c A B : Prop} [Decidable c] (h1 : c → A) (h2 : ¬ c → B) : if decide c = true then A else B := by
  by_cases h : c
  · rw [decide_eq_true h]; exact iteT (h1 h)
  · rw [decide_eq_false h]; exact iteF (h2 h)
theorem iteND {c A B : Prop} [Decidable c] (h1 : ¬ c → A) (h2 : c → B) : if (!decide c) = true then A else B := by
  by_cases h : c
  · rw [decide_eq_true h]; exact iteF (h2 h)
  · rw [decide_eq_false h]; exact iteT (h1 h)
theorem iteB {b : Bool} {A B : Prop} (h1 : b = true → A) (h2 : b = false → B) : if b = true then A else B := by
  cases b with
  | true => exact iteT (h1 rfl)
  | false => exact iteF (h2 rfl)
/-! ### short words for built-ins -/
section
variable {X : Cx} {e : Expr} {te : TE} {p pos : Pos}
/-- int(e) of an int -/
def rInt1 : List V → Hp → VK → Prop := fun xs H Q => ∃ i, xs = [.int i] ∧ Q (.int i) H
theorem call_intI : CallR X (.type "int") rInt1 := by
  intro pins s σ H xs us Q I r h
  exact call_int1 pins s σ H xs us Q I r (.inl h)
theorem pe_int1 (hg : Gl X "int") (hm : X.mg "int" = none) (he : PE X e te) (hs : starEach (e :: []) X.env = (false, eval e X.env) :: starEach [] X.env := by rfl) (hpl : (backTo pos (starEach [] X.env)).any (·.1) = false := by rfl) : PE X (.Call (.Name "int" p) [e] [] pos) (tCB rInt1 (tCons te tNil)) :=
  pe_callTy call_intI hg hm (by decide +kernel) (pa_cons he pa_nil hs) (by decide) (by decide) hs hpl
end
/-! ### from what stands behind the top -/
section
variable {Z : Cz} {CX : CXT} {k : Nat} {C : Addr} {ps : List Str} {sp : Sp} {dvs : List V} {x m nm qual : Str} {st : Stmt}
theorem Cal.mono {j : Nat} (c : Cal Z CX k x ps dvs sp) (h : k ≤ j) : Cal Z CX j x ps dvs sp := by
  obtain ⟨f, fd, ds, G, h1⟩ := c
  exact ⟨f, fd, ds, G.mono h, h1⟩
theorem CalM.mono {j : Nat} (c : CalM Z CX k C x ps dvs sp) (h : k ≤ j) : CalM Z CX j C x ps dvs sp := by
  obtain ⟨f, fd, ds, G, h1⟩ := c
  exact ⟨f, fd, ds, G.mono h, h1⟩
theorem CalS.mono {j : Nat} (c : CalS Z CX k C x ps sp) (h : k ≤ j) : CalS Z CX j C x ps sp := by
  obtain ⟨f, fd, G, h1⟩ := c
  exact ⟨f, fd, G.mono h, h1⟩
end
end Ps

/-! A head by facts: defs by where they stand (a global, a method, a property's getter, a static method), one Bool for all else. -/
namespace Ps
open PySem PySem.Spec PyProof.Rows PySem.W L2 He

inductive At where
  | g (x : Str)
  | m (x m : Str)
  | p (x m : Str)
  | ps (x m : Str)
  | sm (x m : Str)
def rec0 (K : Frag) (p : Addr) (T : String) : Addr := match recIn K p T with
  | some (.ref g :: _) => g
  | _ => 0
def rec1 (K : Frag) (p : Addr) (T : String) : Addr := match recIn K p T with
  | some (_ :: .ref g :: _) => g
  | _ => 0
def At.a (K : Frag) : At → Addr
  | .g x => ga K x
  | .m x n => ma K (ga K x) n
  | .p x n => rec0 K (ma K (ga K x) n) "property"
  | .ps x n => rec1 K (ma K (ga K x) n) "property"
  | .sm x n => rec0 K (ma K (ga K x) n) "staticmethod"
def hdB (K : Frag) (p : Addr) (T : String) (g : Addr) : Bool := match recIn K p T with
  | some (.ref h :: _) => decide (h = g)
  | _ => false
theorem hdB_ok {K : Frag} {p g : Addr} {T : String} (h : hdB K p T g = true) : ∃ rest, recIn K p T = some (.ref g :: rest) := by
  unfold hdB at h
  split at h
  · rename_i a r e
    exact ⟨r, by rw [e, of_decide_eq_true h]⟩
  · cases h
def findB (K : Frag) (C : Addr) (m : Str) : Bool := eqO (findIn K (.ref C) m) (some (some (.ref (ma K C m))))
def At.ok (K : Frag) : At → Bool
  | .g x => eqO (nsIn K mainGlobals x) (some (some (.ref (ga K x))))
  | .m x n => findB K (ga K x) n && (isFn K (.ref (ma K (ga K x) n)) && selfFirst K (ga K x))
  | .p x n => findB K (ga K x) n && (eqO (specialIn K (.ref (ma K (ga K x) n)) "__get__") (some (some (.builtin "property.__get__"))) && (decide (takesIn K (.ref (ma K (ga K x) n)) = some true) && hdB K (ma K (ga K x) n) "property" (rec0 K (ma K (ga K x) n) "property")))
  | .ps x n => true
  | .sm x n => findB K (ga K x) n && hdB K (ma K (ga K x) n) "staticmethod" (rec0 K (ma K (ga K x) n) "staticmethod")
section
variable {K : Frag} {h : Heap} {mg : Str → Option Value} {x m : Str}
theorem At.glo (X : K.In h) (G : h.Ns mainGlobals mg) (c : (At.g x).ok K = true) : mg x = some (.ref (ga K x)) := mg_of X G (eqO_ok c)
theorem At.own (c : (At.m x m).ok K = true) : OwnOp K (ga K x) (ma K (ga K x) m) m := by
  obtain ⟨c1, c⟩ := ba c
  obtain ⟨c2, c3⟩ := ba c
  exact ⟨c3, eqO_ok c1, c2⟩
theorem At.meth (c : (At.m x m).ok K = true) (k : keepIn K (.ref (ma K (ga K x) m)) = true) : Meth K (ga K x) m (ma K (ga K x) m) := by
  obtain ⟨c1, c⟩ := ba c
  obtain ⟨c2, c3⟩ := ba c
  exact ⟨eqO_ok c1, c2, k⟩
theorem At.prop (c : (At.p x m).ok K = true) : PropOf K (ga K x) m (ma K (ga K x) m) (rec0 K (ma K (ga K x) m) "property") := by
  obtain ⟨c1, c⟩ := ba c
  obtain ⟨c2, c⟩ := ba c
  obtain ⟨c3, c4⟩ := ba c
  exact ⟨eqO_ok c1, eqO_ok c2, of_decide_eq_true c3, hdB_ok c4⟩
end
structure DefP where
  at_ : At
  name : Str
  qual : Str
  st : Stmt
  dfl : List Dv := []
def fnP (K : Frag) (a : Addr) : FnW := match K.lookup a with
  | some ⟨_, _, .func fd, _⟩ => some (fd.name, fd.qualname, fd.params, fd.body, fd.scope, fd.globals, fd.closure, fd.builtins)
  | _ => none
def DefP.val (d : DefP) : FnW := some (d.name, d.qual, defArgs d.st, .stmts (defBody d.st), defScope d.st, mainGlobals, [], builtinsNs)
def DefP.dvs (K : Frag) (d : DefP) : List V := d.dfl.map (Dv.v K)
def DefP.ok (K : Frag) (d : DefP) : Bool := d.at_.ok K && (keepIn K (.ref (d.at_.a K)) && (match K.lookup (d.at_.a K) with
  | some ⟨_, _, .func fd, _⟩ => codeIn K fd.code d.qual && dflB K fd.defaults (d.dvs K)
  | _ => false))
theorem DefP.funD {K : Frag} {d : DefP} (e : fnP K (d.at_.a K) = d.val) (c : d.ok K = true) : d.at_.ok K = true ∧ ∃ fd, FunD K d.name d.qual (defArgs d.st) (defBody d.st) (defScope d.st) (d.dvs K) [] (d.at_.a K) fd := by
  obtain ⟨ca, c⟩ := ba c
  obtain ⟨kp, c2⟩ := ba c
  refine ⟨ca, ?_⟩
  unfold fnP at e
  cases q : K.lookup (d.at_.a K) with
  | none =>
    rw [q] at c2
    cases c2
  | some o =>
    obtain ⟨oc, od, dt, osl⟩ := o
    rw [q] at c2 e
    cases dt with
    | func fd =>
      obtain ⟨n1, n2, n3, n4, n5, n6, n7, n8, n9, n10, n11, n12, n13, n14, n15⟩ := fd
      have e2 : (some (n1, n2, n3, n4, n5, n6, n7, n15) : FnW) = some (d.name, d.qual, defArgs d.st, .stmts (defBody d.st), defScope d.st, mainGlobals, [], builtinsNs) := e
      simp only [Option.some.injEq, Prod.mk.injEq] at e2
      obtain ⟨h1, h2, h3, h4, h5, h6, h7, h8⟩ := e2
      subst h1 h2 h3 h4 h5 h6 h7 h8
      have c3 : (codeIn K n13 d.qual && dflB K n8 (d.dvs K)) = true := c2
      obtain ⟨k1, k3⟩ := ba c3
      exact ⟨_, ⟨oc, od, n8, n9, n10, n11, n12, n13, n14, osl, rfl, q, k1, dflB_ok k3, .inl rfl⟩, kp⟩
    | _ => cases c2
/-- without defaults -/
theorem FunD.toFun {K : Frag} {x qual : Str} {st : Stmt} {f : Addr} {fd : FuncData} (F : FunD K x qual (defArgs st) (defBody st) (defScope st) [] [] f fd) : Fun K x qual st f fd := by
  obtain ⟨⟨oc, od, dV, kV, doc, pm, an, cdv, ct, osl, e, lk, hcd, hD, hK⟩, kp⟩ := F
  rcases hD with ⟨_, rfl⟩ | ⟨z, _⟩
  · exact ⟨⟨oc, od, kV, doc, pm, an, cdv, ct, osl, e, lk, hcd⟩, kp⟩
  · exact absurd rfl z
abbrev AlP : Type := Bool × List FnW
def obsP (fn : List DefP) (ex : Frag → Bool) (K : Frag) : AlP := (ex K && fn.all fun d => d.ok K, fn.map fun d => fnP K (d.at_.a K))
def valP (fn : List DefP) : AlP := (true, fn.map DefP.val)
def SaysP (fn : List DefP) (ex : Frag → Bool) (K : Frag) : Prop := obsP fn ex K = valP fn
/-- what the names reach, and the interpreter's own statics -/
def asP (g : Addr → Option Obj) (n : Nat) : List Addr := asD g n ++ [cStatics]
def obsPG (n : Nat) (fn : List DefP) (ex : Frag → Bool) (g : Addr → Option Obj) : AlP := obsP fn ex (frG g (asP g n))
def hookP (n : Nat) (fn : List DefP) (ex : Frag → Bool) : Hook where
  α := AlP
  obs := fun s => obsPG n fn ex s.heap.get?
  val := fun _ => valP fn
  says := fun _ h => ∃ K : Frag, K.In h ∧ SaysP fn ex K
  of := fun _ _ e => ⟨_, frG_in, e⟩
  keeps := fun _ _ _ ⟨K, hK, c⟩ k => ⟨K, Frag.In.keeps hK k, c⟩
theorem obsPG_eq {n : Nat} {fn : List DefP} {ex : Frag → Bool} {g : Addr → Option Obj} {s : Shared} (h : ∀ a, g a = s.heap.get? a) : obsPG n fn ex g = (hookP n fn ex).obs s := by
  have e : g = s.heap.get? := funext h
  rw [e] <;> rfl
section
variable {fn : List DefP} {ex : Frag → Bool} {K : Frag}
theorem SaysP.more (c : SaysP fn ex K) : ex K = true := (ba (show (ex K && fn.all fun d => d.ok K) = true from congrArg (fun z : AlP => z.1) c)).1
theorem SaysP.def_ (c : SaysP fn ex K) (i : Nat) {d : DefP} (h : fn[i]? = some d := by rfl) : d.at_.ok K = true ∧ ∃ fd, FunD K d.name d.qual (defArgs d.st) (defBody d.st) (defScope d.st) (d.dvs K) [] (d.at_.a K) fd := by
  have c2 := (ba (show (ex K && fn.all fun d => d.ok K) = true from congrArg (fun z : AlP => z.1) c)).2
  have e : fn.map (fun d => fnP K (d.at_.a K)) = fn.map DefP.val := congrArg (fun z : AlP => z.2) c
  have e2 : (fn.map fun d => fnP K (d.at_.a K))[i]? = (fn.map DefP.val)[i]? := by rw [e]
  rw [List.getElem?_map, List.getElem?_map, h] at e2
  exact DefP.funD (Option.some.inj e2) (List.all_eq_true.mp c2 d (List.mem_of_getElem? h))
end
/-- the plain def at x: what is known of it -/
structure Got (K : Frag) (mg : Str → Option Value) (x : Str) (st : Stmt) (f : Addr) (fd : FuncData) : Prop where
  F : Fun K x x st f fd
  m : mg x = some (.ref f)
/-- the method m of class x -/
structure GotM (K : Frag) (C : Addr) (m qual : Str) (st : Stmt) (f : Addr) (fd : FuncData) : Prop where
  F : Fun K m qual st f fd
  o : OwnOp K C f m
structure GotP (K : Frag) (C : Addr) (m qual : Str) (st : Stmt) (p f : Addr) (fd : FuncData) : Prop where
  F : Fun K m qual st f fd
  o : PropOf K C m p f
section
variable {fn : List DefP} {ex : Frag → Bool} {K : Frag} {h : Heap} {mg : Str → Option Value} {x m qual : Str} {st : Stmt}
theorem SaysP.glo (c : SaysP fn ex K) (X : K.In h) (G : h.Ns mainGlobals mg) (i : Nat) (e : fn[i]? = some ⟨.g x, x, x, st, []⟩) : ∃ f fd, Got K mg x st f fd := by
  obtain ⟨a, fd, F⟩ := c.def_ i e
  exact ⟨_, fd, ⟨FunD.toFun F, At.glo X G a⟩⟩
theorem SaysP.meth (c : SaysP fn ex K) (i : Nat) (e : fn[i]? = some ⟨.m x m, m, qual, st, []⟩) : ∃ f fd, GotM K (ga K x) m qual st f fd := by
  obtain ⟨a, fd, F⟩ := c.def_ i e
  exact ⟨_, fd, ⟨FunD.toFun F, At.own a⟩⟩
theorem SaysP.prop (c : SaysP fn ex K) (i : Nat) (e : fn[i]? = some ⟨.p x m, m, qual, st, []⟩) : ∃ p f fd, GotP K (ga K x) m qual st p f fd := by
  obtain ⟨a, fd, F⟩ := c.def_ i e
  exact ⟨_, _, fd, ⟨FunD.toFun F, At.prop a⟩⟩
end
section
variable {Z : Cz} {CX : CXT} {k : Nat} {C : Addr} {ps : List Str} {sp : Sp} {x m qual : Str} {st : Stmt} {p f : Addr} {fd : FuncData}
theorem Got.cal (g : Got Z.K Z.mg x st f fd) (G : Z.ok CX k f fd ps sp) (b : Binds Z.K fd ps []) : Cal Z CX k x ps [] sp := ⟨f, fd, [], G, g.m, g.F.kp, b, .nil⟩
theorem GotM.calS (g : GotM Z.K C m qual st f fd) (G : Z.ok CX k f fd ps sp) (b : Binds Z.K fd ps []) : CalS Z CX k C m ps sp := ⟨f, fd, G, g.o, b⟩
theorem GotM.calM (g : GotM Z.K C m qual st f fd) (cl : Cls Z.K C) (G : Z.ok CX k f fd ps sp) (b : Binds Z.K fd ps []) : CalM Z CX k C m ps [] sp := ⟨f, fd, [], G, ⟨g.o.fn, g.o.isf, g.F.kp⟩, cl, b, .nil⟩
theorem GotP.calP (g : GotP Z.K C m qual st p f fd) (cl : Cls Z.K C) (G : Z.ok CX k f fd ["self"] sp) (b : Binds Z.K fd ["self"] []) : CalP Z CX k C m sp := ⟨p, f, fd, [], G, g.o, cl, b, .nil⟩
end
/-! ### Bools of further facts -/
def numB (K : Frag) (C : Addr) (nm : String) : Bool := findB K C (PySem.dunder nm) && (findB K C (dunderR nm) && ((findIn K (.type "int") (PySem.dunder nm)).isSome && ((findIn K (.type "int") (dunderR nm)).isSome && (decide (subIn K (.type "int") (.ref C) = some false) && decide (subIn K (.ref C) (.type "int") = some false)))))
theorem numB_ok {K : Frag} {C : Addr} {nm : String} (c : numB K C nm = true) : NumF K C nm := by
  obtain ⟨c1, c⟩ := ba c
  obtain ⟨c2, c⟩ := ba c
  obtain ⟨c3, c⟩ := ba c
  obtain ⟨c4, c⟩ := ba c
  obtain ⟨c5, c6⟩ := ba c
  exact ⟨⟨_, eqO_ok c1⟩, ⟨_, eqO_ok c2⟩, Option.isSome_iff_exists.mp c3, Option.isSome_iff_exists.mp c4, of_decide_eq_true c5, of_decide_eq_true c6⟩
def freeB (K : Frag) (xs : List Str) : Bool := xs.all fun x => eqO (nsIn K mainGlobals x) (some none)
theorem freeB_ok {K : Frag} {h : Heap} {mg : Str → Option Value} (X : K.In h) (G : h.Ns mainGlobals mg) {xs : List Str} (c : freeB K xs = true) {x : Str} (hx : x ∈ xs) : mg x = none := mg_none_of X G (eqO_ok (List.all_eq_true.mp c x hx))
end Ps

/-! What the names reach, gathered in rounds: the seen addresses are a Nat's bits (the kernel's own arithmetic), each object is looked at once. -/
namespace Ps
open PySem PySem.Spec PyProof.Rows PySem.W L2 He

section
variable {α : Type} (g : Addr → Option Obj)
def inQ (k : Nat → Frag → List Addr → α) : List Addr → Nat → Frag → List Addr → α
  | [], v, acc, nx => k v acc nx
  | a :: r, v, acc, nx => HandSHeadRun.frNat a fun a => match Nat.land (Nat.shiftRight v a) 1 with
    | 0 => (match g a with
      | some o => HandSHeadRun.frNat (Nat.lor v (Nat.shiftLeft 1 a)) fun v => inQ k r v ((a, o) :: acc) (refsD o ++ nx)
      | none => inQ k r v acc nx)
    | _ + 1 => inQ k r v acc nx
def outQ (k : Frag → α) : Nat → List Addr → Nat → Frag → α
  | 0, l, v, acc => inQ g (fun _ acc _ => k acc) l v acc []
  | n + 1, l, v, acc => inQ g (fun v acc nx => outQ k n nx v acc) l v acc []
def GoodQ (acc : Frag) : Prop := ∀ a o, acc.lookup a = some o → g a = some o
variable {g}
theorem GoodQ.cons {acc : Frag} {a : Addr} {o : Obj} (h : GoodQ g acc) (e : g a = some o) : GoodQ g ((a, o) :: acc) := fun b o' q => by
  have q2 : (match b == a with | true => some o | false => acc.lookup b) = some o' := q
  cases z : (b == a) with
  | true =>
    rw [z] at q2
    have eo : o = o' := Option.some.inj q2
    rw [beq_iff_eq.mp z, e, eo]
  | false =>
    rw [z] at q2
    exact h _ _ q2
theorem inQ_ok {Φ : α → Prop} {k : Nat → Frag → List Addr → α} (hk : ∀ v acc nx, GoodQ g acc → Φ (k v acc nx)) : ∀ (l : List Addr) (v : Nat) (acc : Frag) (nx : List Addr), GoodQ g acc → Φ (inQ g k l v acc nx)
  | [], v, acc, nx, h => hk v acc nx h
  | a :: r, v, acc, nx, h => by
    unfold inQ
    rw [HandSHeadRun.frNat_eq]
    cases Nat.land (Nat.shiftRight v a) 1 with
    | zero =>
      show Φ (match g a with
        | some o => HandSHeadRun.frNat (Nat.lor v (Nat.shiftLeft 1 a)) fun v => inQ g k r v ((a, o) :: acc) (refsD o ++ nx)
        | none => inQ g k r v acc nx)
      cases e : g a with
      | none => exact inQ_ok hk r v acc nx h
      | some o =>
        show Φ (HandSHeadRun.frNat (Nat.lor v (Nat.shiftLeft 1 a)) fun v => inQ g k r v ((a, o) :: acc) (refsD o ++ nx))
        rw [HandSHeadRun.frNat_eq]
        exact inQ_ok hk r _ _ _ (h.cons e)
    | succ n => exact inQ_ok hk r v acc nx h
theorem outQ_ok {Φ : α → Prop} {k : Frag → α} (hk : ∀ acc, GoodQ g acc → Φ (k acc)) : ∀ (n : Nat) (l : List Addr) (v : Nat) (acc : Frag), GoodQ g acc → Φ (outQ g k n l v acc)
  | 0, l, v, acc, h => inQ_ok (fun _ acc _ q => hk acc q) l v acc [] h
  | n + 1, l, v, acc, h => inQ_ok (fun v acc nx q => outQ_ok hk n nx v acc q) l v acc [] h
end
def obsQG (n : Nat) (fn : List DefP) (ex : Frag → Bool) (g : Addr → Option Obj) : AlP := outQ g (obsP fn ex) n [mainGlobals] 0 (frG g [cStatics])
theorem goodQ_nil {g : Addr → Option Obj} (as : List Addr) : GoodQ g (frG g as) := fun _ _ e => frG_at as e
def hookQ (n : Nat) (fn : List DefP) (ex : Frag → Bool) : Hook where
  α := AlP
  obs := fun s => obsQG n fn ex s.heap.get?
  val := fun _ => valP fn
  says := fun _ h => ∃ K : Frag, K.In h ∧ SaysP fn ex K
  of := fun _ s e => outQ_ok (g := s.heap.get?) (Φ := fun z => z = valP fn → ∃ K : Frag, K.In s.heap ∧ SaysP fn ex K) (fun acc q z => ⟨acc, q, z⟩) n _ 0 _ (goodQ_nil _) e
  keeps := fun _ _ _ ⟨K, hK, c⟩ k => ⟨K, Frag.In.keeps hK k, c⟩
theorem obsQG_eq {n : Nat} {fn : List DefP} {ex : Frag → Bool} {g : Addr → Option Obj} {s : Shared} (h : ∀ a, g a = s.heap.get? a) : obsQG n fn ex g = (hookQ n fn ex).obs s := by
  have e : g = s.heap.get? := funext h
  rw [e] <;> rfl
end Ps

/-! Static methods called by the class's name. -/
namespace Ps
open PySem PySem.Spec PyProof.Rows PySem.W L2 He

/-- C.m is a static method: its record at p, its def at g -/
structure StM (K : Frag) (C : Addr) (m : Str) (p g : Addr) : Prop where
  rd : readsIn K C (.type "type") = true
  ga : specialIn K (.ref C) "__getattribute__" = some (some (.builtin "type.__getattribute__"))
  at_ : findCls K (.ref C) (.type "type") m = some (.get (.builtin "staticmethod.__get__") (.ref p) .none (.ref C))
  rc : ∃ rest, recIn K p "staticmethod" = some (.ref g :: rest)
  kp : keepIn K (.ref g) = true
def CalT (Z : Cz) (CX : CXT) (k : Nat) (C : Addr) (m : Str) (sp : Sp) : Prop := ∃ p g, FnR Z.P Z.w Z.K Z.mg Z.base CX k g sp ∧ StM Z.K C m p g
def tSMeth (C : Addr) (sp : Sp) (E : XK) (ta : TE) (t : TA) : TE := fun σ H Q => ta σ H fun x H1 => x = .ref C ∧ t σ H1 fun vs H2 => sp vs H2 Q E
section
variable {Z : Cz} {X : Cx} {CX : CXT} {k : Nat} {C : Addr} {sp : Sp} {E : XK} {o e : Expr} {es : List Expr} {m : Str} {pos apos : Pos} {ta : TE} {t : TA} {pl : Sem Bool}
theorem getsm_ok {p g : Addr} {pins : List (Addr × Obj)} {σ : L2.St} {H : Hp} {s : Shared} {A : Around} {Er : Value → Shared → Prop} {Q : Value × List Value → Shared → Prop} (I : L2.Inv X pins σ H s) (r : StM X.K C m p g)
    (h : ∀ s', L2.Inv X pins σ H s' → Q (.ref g, []) s') : wpAny (model X.prog X.w) A (getMethod (.ref C) m pl) Q Er s := by
  obtain ⟨rest, hp⟩ := r.rc
  refine method_cls I.kIn r.ga ?_
  refine cls_bind I.kIn r.rd r.at_ ?_
  refine wpAny_call (sm_get (s := { s with toks := s.toks + 1 }) I.kIn hp (handed_on rfl ?_))
  exact h _ (I.tok _)
theorem pe_calT (c : CalT Z CX k C m sp) (hr : Room k X.A) (hx : Passes CX X E) (he : PE X o ta) (ha : PA X (e :: es) t) (z : InZ Z X := by exact ⟨rfl, rfl, rfl, rfl, rfl⟩)
    (hst : starEach (e :: es) X.env = (false, eval e X.env) :: starEach es X.env := by rfl) (hpl : (backTo pos (starEach es X.env)).any (·.1) = false := by rfl)
    (ht : eval (.Call (.Attribute o m apos) (e :: es) [] pos) X.env = (do
      let ov ← eval o X.env
      standAt apos.atName
      let (f, first) ← holding [ov] (getMethod ov m pl)
      callWith pos f first (backTo pos (starEach (e :: es) X.env)) (backToKw pos (keywordEach [] X.env))) := by rfl) :
    PE X (.Call (.Attribute o m apos) (e :: es) [] pos) (tSMeth C sp E ta t) := by
  obtain ⟨p, g, F, r⟩ := c
  obtain ⟨e1, e2, e3, e4, e5⟩ := z
  have F' : FnR X.prog X.w X.K X.mg X.base CX k g sp := by rw [e1, e2, e3, e4, e5]; exact F
  rw [← e3] at r
  refine ⟨fun pins s σ H Q I h => ?_⟩
  refine methodCall_KW (pl := pl) (thn (he.run pins s σ H _ I h) fun u s1 ⟨x, H1, I1, rx, ex, q⟩ => ?_) ht
  subst ex
  obtain rfl : u = Value.ref C := rx
  refine getsm_ok I1 r fun s2 I2 => ?_
  refine callWith_K (h₀ := X.base) I2.ok.mod.kin r.kp (thn (ha.run pos _ s2 σ H1 _ I2 q) fun us s3 ⟨vs, H2, I3, rv, q2⟩ => ⟨I3.kIn, ?_⟩) hst hpl
  exact wpAny_call (run_fnR F' hr hx I3 rv q2)
theorem pe_calT0 (c : CalT Z CX k C m sp) (hr : Room k X.A) (hx : Passes CX X E) (he : PE X o ta) (z : InZ Z X := by exact ⟨rfl, rfl, rfl, rfl, rfl⟩)
    (ht : eval (.Call (.Attribute o m apos) [] [] pos) X.env = (do
      let ov ← eval o X.env
      standAt apos.atName
      let (f, first) ← holding [ov] (getMethod ov m pl)
      callWith pos f first (backTo pos (starEach [] X.env)) (backToKw pos (keywordEach [] X.env))) := by rfl) :
    PE X (.Call (.Attribute o m apos) [] [] pos) (tSMeth C sp E ta tNil) := by
  obtain ⟨p, g, F, r⟩ := c
  obtain ⟨e1, e2, e3, e4, e5⟩ := z
  have F' : FnR X.prog X.w X.K X.mg X.base CX k g sp := by rw [e1, e2, e3, e4, e5]; exact F
  rw [← e3] at r
  refine ⟨fun pins s σ H Q I h => ?_⟩
  refine methodCall_KW (pl := pl) (thn (he.run pins s σ H _ I h) fun u s1 ⟨x, H1, I1, rx, ex, q⟩ => ?_) ht
  subst ex
  obtain rfl : u = Value.ref C := rx
  refine getsm_ok I1 r fun s2 I2 => ?_
  refine callWith_K0 I2.kIn r.kp ?_
  exact wpAny_call (run_fnR F' hr hx I2 (us := []) (vs := []) .nil q)
end
/-! behind the top -/
def statB (K : Frag) (x m : Str) : Bool := readsIn K (ga K x) (.type "type") && (eqO (specialIn K (.ref (ga K x)) "__getattribute__") (some (some (.builtin "type.__getattribute__"))) &&
  (match findCls K (.ref (ga K x)) (.type "type") m with
    | some (.get (.builtin b) (.ref p) .none (.ref c)) => decide (b = "staticmethod.__get__") && (decide (p = ma K (ga K x) m) && decide (c = ga K x))
    | _ => false))
theorem statB_ok {K : Frag} {x m : Str} (c : statB K x m = true) (a : (At.sm x m).ok K = true) (k : keepIn K (.ref ((At.sm x m).a K)) = true) : StM K (ga K x) m (ma K (ga K x) m) ((At.sm x m).a K) := by
  obtain ⟨c1, c⟩ := ba c
  obtain ⟨c2, c3⟩ := ba c
  obtain ⟨a1, a2⟩ := ba a
  refine ⟨c1, eqO_ok c2, ?_, hdB_ok a2, k⟩
  split at c3
  · rename_i b p c' e
    obtain ⟨d1, d⟩ := ba c3
    obtain ⟨d2, d3⟩ := ba d
    rw [e, of_decide_eq_true d1, of_decide_eq_true d2, of_decide_eq_true d3]
  · cases c3
theorem SaysP.stat {fn : List DefP} {ex : Frag → Bool} {K : Frag} {x m qual : Str} {st : Stmt} (c : SaysP fn ex K) (i : Nat) (e : fn[i]? = some ⟨.sm x m, m, qual, st, []⟩) (h : statB K x m = true) : ∃ p g fd, StM K (ga K x) m p g ∧ Fun K m qual st g fd := by
  obtain ⟨a, fd, F⟩ := c.def_ i e
  exact ⟨_, _, fd, statB_ok h a F.kp, FunD.toFun F⟩
/-- def m(*v) -/
theorem Fun.star0 {Z : Cz} {x qual pv : Str} {st : Stmt} {f : Addr} {fd : FuncData} {N : List Str} {k : Nat} {sp : Sp} {CX : CXT} (F : Fun Z.K x qual st f fd) (S : FnScope N [pv] (defScope st)) (hCX : StX.CXUp CX)
    (h0 : ∀ (kV doc pm : Value) (an : Option Addr) (cdv ct : Value), bindArgs (fnOf x qual (defArgs st) (defBody st) (defScope st) .none kV doc pm an cdv ct) ⟨[], []⟩ = (newTuple [] >>= fun t => pure [(pv, t)]))
    (h1 : ∀ (kV doc pm : Value) (an : Option Addr) (cdv ct : Value) (r : Value) (rs : List Value), bindArgs (fnOf x qual (defArgs st) (defBody st) (defScope st) .none kV doc pm an cdv ct) ⟨r :: rs, []⟩ = (newTuple (r :: rs) >>= fun t => pure [(pv, t)]))
    (hbody : ∀ (cdv : Value) (A : Around) (outer : List Env) (s : Shared) (H : Hp) (vs : List V) (Q : VK) (E : XK), Room k (A.deeper (envOfC qual (defScope st) s.heap.objs.size f cdv)) → sp vs H Q E →
      ∃ t, PSs (cxOf CX Z.P Z.w Z.K Z.mg Z.base N qual (defScope st) f cdv A outer s H E) (defBody st) t ∧ t { nx := fun _ H' => Q .non H', rt := Q } (start N vs) H) :
    FnR Z.P Z.w Z.K Z.mg Z.base CX (k + 1) f (fun vs H Q E => vs.length ≤ sizeLine ∧ ∀ p, H p = none → sp [V.ref p] (upd H p (.tup vs)) Q E) := by
  obtain ⟨oc, od, kV, doc, pm, an, cdv, ct, osl, rfl, lk, hcd⟩ := F.ex
  have G := StX.fn_star (ps := []) (pv := pv) (sp := sp) (k := k) (P := Z.P) (w := Z.w) (mg := Z.mg) (base := Z.base) lk hcd S hCX (fun us rest hl => match us, rest, hl with | [], [], _ => h0 kV doc pm an cdv ct | [], r :: rs, _ => h1 kV doc pm an cdv ct r rs) (fun A outer s H vs Q E hr hsp => hbody cdv A outer s H vs Q E hr hsp)
  exact G.imp fun vs H Q E ⟨hl, h⟩ => ⟨[], vs, rfl, rfl, hl, h⟩
end Ps

/-! d[k] = e as a target; keyword-only defaults behind the top; defs with **kw, called by keywords. -/
namespace Ps
open PySem PySem.Spec PyProof.Rows PySem.W L2 He
section
variable {X : Cx}
def rSetD : V → V → V → Hp → (Hp → Prop) → Prop := fun o i v H Q => ∃ a H', o = .ref a ∧ DPut H a i v H' ∧ Q H'
theorem set_dct (hu : X.A.units + 1 < cLine) : PSet X rSetD := by
  intro pins s σ H o i v ov iv u Q I ro ri rv h
  obtain ⟨a, H', rfl, g, q⟩ := h
  cases ro
  exact d_setItem hu I g ri rv fun s' I' => ⟨H', I', q⟩
end
/-! ### keyword-only defaults -/
def relVB : V → Value → Bool
  | .non, .none => true
  | .bl b, .bool c => b == c
  | .int i, .int j _ => decide (i = j)
  | .str x, .str y _ => decide (x = y)
  | _, _ => false
theorem relVB_ok {v : V} {u : Value} (h : relVB v u = true) : RelV v u := by
  unfold relVB at h
  split at h
  · exact rfl
  · rw [eq_of_beq h]; exact rfl
  · rename_i i j t
    have := of_decide_eq_true h
    subst this
    exact ⟨_, rfl⟩
  · rename_i x y t
    have := of_decide_eq_true h
    subst this
    exact ⟨_, rfl⟩
  · cases h
def kwdVB (K : Frag) (kV : Value) (kws : List (Str × V)) : Bool := match kV with
  | .ref D => kws.all fun q => (match nsIn K D q.1 with
    | some (some u) => relVB q.2 u
    | _ => false)
  | _ => false
def kwdB (K : Frag) (f : Addr) (kws : List (Str × V)) : Bool := match K.lookup f with
  | some ⟨_, _, .func fd, _⟩ => kwdVB K fd.kwdefaults kws
  | _ => false
theorem FunD.withKw {K : Frag} {x qual : Str} {params : Arguments} {body : List Stmt} {scope : Scope} {dvs : List V} {kws : List (Str × V)} {f : Addr} {fd : FuncData} (F : FunD K x qual params body scope dvs [] f fd) (c : kwdB K f kws = true) : FunD K x qual params body scope dvs kws f fd := by
  obtain ⟨⟨oc, od, dV, kV, doc, pm, an, cdv, ct, osl, e, lk, hcd, hD, _⟩, kp⟩ := F
  refine ⟨⟨oc, od, dV, kV, doc, pm, an, cdv, ct, osl, e, lk, hcd, hD, ?_⟩, kp⟩
  unfold kwdB at c
  rw [lk, e] at c
  have c : kwdVB K kV kws = true := c
  unfold kwdVB at c
  cases kV with
  | ref D =>
    refine .inr ⟨D, rfl, fun q hq => ?_⟩
    have := List.all_eq_true.mp c q hq
    split at this
    · rename_i u hu
      exact ⟨u, hu, relVB_ok this⟩
    · cases this
  | _ => cases c
/-! ### **kw -/
section
variable {prog : Program} {w : World} {A : Around} {E : Value → Shared → Prop} {s : Shared}
theorem nsSet_pairs {d : Addr} {kvs : List (Key × Value)} {name : Str} {v : Value} {Q : Unit → Shared → Prop} (hm : s.heap.DictOf (mixKind prog w) d kvs) (hnk : (Sum.inr name : Key) ∉ kvs.map (·.1))
    (hQ : ∀ h', h'.DictOf (mixKind prog w) d (kvs ++ [(Sum.inr name, v)]) → Heap.SameBut d s.heap h' → Q () { s with heap := h', toks := s.toks + 1 }) :
    wpAny (model prog w) A (nsSet d name v) Q E s := by
  obtain ⟨o, es, ep, ho, hc, hd, hk, hp, hnd⟩ := hm
  have hany : es.any (·.refKey) = false := by
    rw [Array.any_eq_false']
    intro e he
    obtain ⟨k', hk', _⟩ := hk e he
    rcases keyIs_shape hk' with ⟨i, t, _, h⟩ | ⟨x, t, _, h⟩ <;> simp [DictEntry.refKey, h]
  have hidx : es.findIdx? (·.key.isStr name) = none := by
    rw [Array.findIdx?_eq_none_iff]
    intro e he
    refine Bool.eq_false_iff.mpr fun hs => ?_
    obtain ⟨k', hk', _⟩ := hk e he
    rcases keyIs_shape hk' with ⟨i, t, _, h⟩ | ⟨x, t, hx, h⟩
    · rw [h] at hs
      cases hs
    · rw [h] at hs
      have hxn : x = name := by
        have : (x == name) = true := hs
        exact eq_of_beq this
      subst hxn
      obtain ⟨i, hi, hie⟩ := Array.mem_iff_getElem.mp he
      have hi' : i < kvs.length := by
        have := hp.length
        simp at this
        omega
      obtain ⟨hkey, _⟩ := hp.get? (i := i) (e := e) (k := kvs[i].1) (v := kvs[i].2) (by rw [Array.getElem?_toList, Array.getElem?_eq_getElem hi, hie]) (List.getElem?_eq_getElem hi')
      have e2 : k' = kvs[i].1 := (mixKind prog w).inj _ _ _ hk' hkey
      exact hnk (List.mem_map.mpr ⟨kvs[i], List.getElem_mem hi', by rw [← e2, hx]⟩)
  unfold nsSet strHash
  refine wpAny_bind (wpAny_bind (wpAny_askSetting (wpAny_pure ?_)))
  refine wpAny_bind (wpAny_mkText ?_)
  refine wpAny_bind (wpAny_loadPart (o := o) ho ?_)
  simp only [hd, aRefKeyMayBeTheName_eq, aRefKeyMayBeTheNameByArray, hany, Bool.and_false, Bool.false_eq_true, if_false]
  refine wpAny_updatePart ho (hQ _ ?_ (Heap.SameBut.update ..))
  have hkey : (mixKind prog w).is (Sum.inr name) (.str name s.toks) = true := by
    show Value.isStrOf name (.str name s.toks) = true
    simp [Value.isStrOf]
  have hput : Obj.putName name (hashStr w name) (.str name s.toks) v o = o.mapDictKeys fun es => es.push ⟨hashStr w name, .str name s.toks, v⟩ := by
    obtain ⟨c, dd, dt, sl⟩ := o
    subst hd
    simp only [Obj.putName_eq, Obj.putNameByArray, hidx]
    rfl
  refine ⟨_, _, ep + 1, ?_, ?_, Obj.data_mapDictKeys hd fun es => es.push ⟨hashStr w name, .str name s.toks, v⟩, ?_, ?_, ?_⟩
  · exact (Heap.get?_update_self _ ho (by show (Obj.putName name (hashStr w name) (.str name s.toks) v o).isFreed = false; rw [hput]; exact Obj.isFreed_of_dict (Obj.data_mapDictKeys hd _))).trans (congrArg some hput)
  · exact hc.mapDictKeys _
  · exact hk.push hkey _
  · have := hp.append hkey (hashStr w name) v
    obtain ⟨l⟩ := es
    simpa using this
  · rw [List.map_append, List.nodup_append]
    refine ⟨hnd, by simp, ?_⟩
    intro a ha b hb
    simp only [List.map_cons, List.map_nil, List.mem_singleton] at hb
    subst hb
    exact fun e => hnk (e ▸ ha)
/-- the keywords' pairs into the new dict -/
theorem kwAll_pairs {d : Addr} : ∀ (kw : List (Str × Value)) (kvs : List (Key × Value)) (s : Shared) {Q : PUnit → Shared → Prop}, s.heap.DictOf (mixKind prog w) d kvs → List.Nodup ((kvs ++ kw.map fun p : Str × Value => ((Sum.inr p.1 : Key), p.2)).map (fun p : Key × Value => p.1)) →
    (∀ h' t, h'.DictOf (mixKind prog w) d (kvs ++ kw.map fun p => (Sum.inr p.1, p.2)) → Heap.SameBut d s.heap h' → Q PUnit.unit { s with heap := h', toks := t }) →
    wpAny (model prog w) A (forIn kw PUnit.unit fun x _ => do nsSet d x.1 x.2; pure (ForInStep.yield PUnit.unit)) Q E s
  | [], kvs, s, Q, hm, _, hQ => by
    rw [List.forIn_nil]
    refine wpAny_pure ?_
    have := hQ s.heap s.toks (by simpa using hm) (Heap.SameBut.refl _ _)
    exact this
  | (k, v) :: r, kvs, s, Q, hm, hnd, hQ => by
    rw [List.forIn_cons]
    have e : kvs ++ ((k, v) :: r).map (fun p : Str × Value => ((Sum.inr p.1 : Key), p.2)) = (kvs ++ [(Sum.inr k, v)]) ++ r.map fun p => (Sum.inr p.1, p.2) := by simp
    rw [e] at hnd hQ
    have hk : (Sum.inr k : Key) ∉ kvs.map (·.1) := by
      rw [List.map_append, List.map_append, List.append_assoc, List.nodup_append] at hnd
      intro h
      exact hnd.2.2 _ h _ (by simp) rfl
    refine wpAny_bind (wpAny_bind (nsSet_pairs hm hk fun h' dd hs => wpAny_pure ?_))
    refine kwAll_pairs r (kvs ++ [(Sum.inr k, v)]) _ dd hnd fun h2 t2 dd2 hs2 => ?_
    exact hQ h2 t2 dd2 (hs.trans hs2)
end
/-- a def called by keywords ks behind one positional value -/
def FnKw (P : Program) (w : World) (K : Frag) (mg : Str → Option Value) (base : Heap) (CX : CXT) (k : Nat) (f : Addr) (ks : List Str) (sp : V → List V → Hp → VK → XK → Prop) : Prop :=
  ∀ (A : Around) (outer : List Env) (s : Shared) (H : Hp) (u : Value) (ws : List Value) (v : V) (zs : List V) (Q : VK) (E : XK), Room k A → Env0 P w K mg base A outer s H → RelV v u → Vals zs ws → ws.length = ks.length → sp v zs H Q E →
    codeAny (model P w) A (.call (.ref f) ⟨[u], ks.zip ws⟩) (CR CX outer P w H s Q E) s
def kwK (ks : List Str) (zs : List V) : List (Key × V) := (ks.zip zs).map fun p => (Sum.inr p.1, p.2)
theorem kw_rel : ∀ {ks : List Str} {zs : List V} {ws : List Value}, Vals zs ws → KV (kwK ks zs) ((ks.zip ws).map fun p => ((Sum.inr p.1 : Key), p.2))
  | [], _, _, _ => by unfold kwK; simp; exact .nil
  | _ :: _, _, _, .nil => by unfold kwK; simp; exact .nil
  | k :: ks, _, _, .cons r rs => .cons ⟨rfl, r⟩ (kw_rel rs)
section
variable {CX : CXT} {P : Program} {w : World} {K : Frag} {mg : Str → Option Value} {base : Heap} {k : Nat} {f : Addr} {name qual : Str} {params : Arguments} {body : List Stmt} {scope : Scope} {dV kV doc pm cdv ct oc : Value} {an od : Option Addr}
  {osl : Array (Option Value)} {N ks : List Str} {p1 pd : Str} {sp : Sp}
/-- def f(a, **d) -/
theorem fn_kw (lk : K.lookup f = some ⟨oc, od, .func (PySem.W.fnOf name qual params body scope dV kV doc pm an cdv ct), osl⟩) (hcd : PySem.W.codeIn K cdv qual = true) (S : FnScope N [p1, pd] scope) (hCX : StX.CXUp CX) (hnd : ks.Nodup)
    (hb : ∀ (u : Value) (ws : List Value), ws.length = ks.length → bindArgs (PySem.W.fnOf name qual params body scope dV kV doc pm an cdv ct) ⟨[u], ks.zip ws⟩ =
      ((alloc ({ cls := .type "dict", data := .dict #[] } : Obj) : Sem Addr) >>= fun d => (forIn (ks.zip ws) PUnit.unit fun x _ => do nsSet d x.1 x.2; pure (ForInStep.yield PUnit.unit)) >>= fun _ => pure [(p1, u), (pd, Value.ref d)]))
    (hbody : ∀ (A : Around) (outer : List Env) (s : Shared) (H : Hp) (vs : List V) (Q : VK) (E : XK), Room k (A.deeper (envOfC qual scope s.heap.objs.size f cdv)) → sp vs H Q E →
      ∃ t, PSs (cxOf CX P w K mg base N qual scope f cdv A outer s H E) body t ∧ t { nx := fun _ H' => Q .non H', rt := Q } (start N vs) H) :
    FnKw P w K mg base CX (k + 1) f ks (fun v zs H Q E => ks.length ≤ 100 ∧ ∀ d, H d = none → sp [v, .ref d] (upd H d (.dK (kwK ks zs))) Q E) := by
  intro A outer s H u ws v zs Q E hr e0 rv r hl hsp
  obtain ⟨h100, hq⟩ := hsp
  have hn : H s.heap.objs.size = Option.none := e0.hok.fresh (Nat.le_refl _)
  refine StX.run_bnd lk hcd S hr e0 (G := fun xs H2 => ∃ d, H d = Option.none ∧ xs = [v, V.ref d] ∧ H2 = upd H d (.dK (kwK ks zs))) (fun A' Ex Q' h => ?_) fun s2 H2 xs ⟨d, hd, ex, eH⟩ hr' => ?_
  · rw [hb u ws hl]
    refine wpAny_bind (wpAny_alloc ?_)
    have hmap : ((ks.zip ws).map fun p => ((Sum.inr p.1 : Key), p.2)).map (·.1) = ks.map Sum.inr := by
      rw [List.map_map]
      have : ((fun x : Key × Value => x.1) ∘ fun p : Str × Value => ((Sum.inr p.1 : Key), p.2)) = (Sum.inr ∘ Prod.fst) := rfl
      rw [this, ← List.map_map, List.map_fst_zip (by omega)]
    have hnd' : (([] : List (Key × Value)) ++ (ks.zip ws).map fun p => ((Sum.inr p.1 : Key), p.2)).map (·.1) |>.Nodup := by
      rw [List.nil_append, hmap]
      exact List.Pairwise.map _ (fun a b hab he => hab (Sum.inr.inj he)) hnd
    refine wpAny_bind (kwAll_pairs (ks.zip ws) [] _ (Heap.DictOf.new s.heap) hnd' fun h' t dd hs => wpAny_pure ?_)
    rw [List.nil_append] at dd
    have kp : ∀ b x, s.heap.get? b = some x → h'.get? b = some x := fun b x e => (hs.2 b (Nat.ne_of_lt (Heap.lt_size e))).trans (Heap.get?_push_of_some _ e)
    have hz : (kwK ks zs).length ≤ sizeLine := by
      unfold kwK
      rw [List.length_map, List.length_zip]
      exact Nat.le_trans (Nat.min_le_left _ _) (Nat.le_trans h100 (by decide))
    have hsm : (s.heap.objs.size == sysModules) = false := beq_eq_false_iff_ne.mpr (Ne.symm (Nat.ne_of_lt (StX.env0_big e0)))
    have new : ObjOk P w (upd H s.heap.objs.size (.dK (kwK ks zs))) h' s.heap.objs.size (.dK (kwK ks zs)) := dk_new hz hsm (kw_rel r) dd
    have un : Un (frs outer) [] H (upd H s.heap.objs.size (.dK (kwK ks zs))) s.heap h' := Un.laid kp (Nat.le_refl _) hn
    have e2 : Env0 P w K mg base A outer { s with heap := h', toks := t } (upd H s.heap.objs.size (.dK (kwK ks zs))) := by
      refine ⟨e0.frames, e0.mod, fun b x e => ⟨kp b x (e0.bs b x e).1, ?_⟩, ?_, Heap.FunFrames.of_keeps (fun b x e _ => ⟨x, kp b x e, rfl⟩) e0.funs, fun b hb => ?_, e0.hok.laid kp (Nat.le_refl _) new, e0.bare⟩
      · rw [upd_ne (Nat.ne_of_lt (Heap.lt_size (e0.bs b x e).1))]
        exact (e0.bs b x e).2
      · show base.objs.size ≤ h'.objs.size
        obtain ⟨q, _, _, hq, _⟩ := dd
        exact Nat.le_trans e0.bsz (Nat.le_of_lt (Heap.lt_size hq))
      · obtain ⟨_, x, hx, _⟩ := e0.funs.mem hb
        rw [upd_ne (Nat.ne_of_lt (Heap.lt_size hx))]
        exact e0.frf b hb
    exact h _ _ [v, V.ref s.heap.objs.size] [u, Value.ref s.heap.objs.size] e2 un rfl (fun e s' => hCX outer s H _ _ E e s' un kp rfl) (.cons rv (.cons rfl .nil)) rfl ⟨_, hn, rfl, rfl⟩
  · subst ex eH
    exact hbody A outer s2 _ _ Q E hr' (hq d hd)
end
/-- a method by keywords alone -/
def CalK (Z : Cz) (CX : CXT) (k : Nat) (C : Addr) (m : Str) (ks : List Str) (sp : V → List V → Hp → VK → XK → Prop) : Prop := ∃ f, FnKw Z.P Z.w Z.K Z.mg Z.base CX k f ks sp ∧ Meth Z.K C m f ∧ Cls Z.K C
section
variable {Z : Cz} {X : Cx} {CX : CXT} {k : Nat} {C : Addr} {ks : List Str} {sp : V → List V → Hp → VK → XK → Prop} {E : XK} {m : Str} {pos apos : Pos} {o : Expr} {ta : TE} {kws : List Keyword} {tk : TA}
def tMethK (C : Addr) (m : Str) (n : Nat) (sp : V → List V → Hp → VK → XK → Prop) (E : XK) (ta : TE) (tk : TA) : TE := fun σ H Q => ta σ H fun x H1 => ∃ a dx fs, x = .ref a ∧ H1 a = some (.ins C dx fs) ∧ fs.lookup m = none ∧ tk σ H1 fun zs H2 => zs.length = n ∧ sp x zs H2 Q E
theorem pe_calK {pl : Sem Bool} (c : CalK Z CX k C m ks sp) (hr : Room k X.A) (hx : Passes CX X E) (he : PE X o ta) (hkw : PK X kws tk) (z : InZ Z X := by exact ⟨rfl, rfl, rfl, rfl, rfl⟩)
    (hall : (backToKw pos (keywordEach kws X.env)).all (·.1.isSome) = true := by rfl) (hks : (backToKw pos (keywordEach kws X.env)).filterMap (·.1) = ks := by rfl)
    (hpl : ((backTo pos (starEach [] X.env)).any (·.1) || (backToKw pos (keywordEach kws X.env)).any (·.1.isNone)) = false := by rfl)
    (ht : eval (.Call (.Attribute o m apos) [] kws pos) X.env = (do
      let ov ← eval o X.env
      standAt apos.atName
      let (f, first) ← holding [ov] (getMethod ov m pl)
      callWith pos f first (backTo pos (starEach [] X.env)) (backToKw pos (keywordEach kws X.env))) := by rfl) :
    PE X (.Call (.Attribute o m apos) [] kws pos) (tMethK C m ks.length sp E ta tk) := by
  obtain ⟨f, G, hm, cl⟩ := c
  obtain ⟨e1, e2, e3, e4, e5⟩ := z
  rw [← e1, ← e2, ← e3, ← e4, ← e5] at G
  rw [← e3] at hm cl
  refine ⟨fun pins s σ H Q I h => ?_⟩
  refine PySem.W.methodCall_KW (pl := pl) (thn (he.run pins s σ H _ I h) fun u s1 ⟨x, H1, I1, rx, a, dx, fs, ex, ea, l, q⟩ => ?_) ht
  subst ex
  obtain rfl : u = Value.ref a := rx
  refine getmeth_ok I1 ea cl hm l ?_
  refine PySem.W.callWith_KW0 (first := [.ref a]) (h₀ := X.base) I.ok.mod.kin hm.kp hall ?_ hpl
  refine thn (hkw.run pos pins s1 σ H1 _ I1 q) fun ws s2 ⟨zs, H2, I2, rz, hl, q2⟩ => ⟨I2.kIn, ?_⟩
  rw [hks]
  refine wpAny_call (codeAny_mono (G X.A X.stack s2 H2 (.ref a) ws (.ref a) zs Q E hr I2.env0 rfl rz (rz.length.symm.trans hl) q2) fun r s' hq => ?_)
  cases r with
  | error e => exact hx pins σ H2 s2 e s' I2 hq
  | ok fl =>
    cases fl with
    | ret u => exact I2.after hq
    | next => exact False.elim hq
    | brk => exact False.elim hq
    | cont => exact False.elim hq
end
end Ps

/-! The Bool asks of a head, early, for the runs. -/
namespace Ps
open PySem PySem.Spec PyProof.Rows PySem.W L2 He

def ownB (K : Frag) (C : Addr) : Bool := eqO (findIn K (.ref C) "__class__") (some (some (.builtin "object.__class__"))) && (eqO (specialIn K (.builtin "object.__class__") "__get__") (some (some (.builtin "getset_descriptor.__get__"))) && (decide (takesIn K (.builtin "object.__class__") = some true) && decide (mroIn K C (.type "object") = some true)))
def shB (K : Frag) : Bool := (Fa.cls "Share").ok K && ((Fa.mkr "Share").ok K && ((Fa.noat "Share" "own_top").ok K && ((Fa.noat "Share" "own_under").ok K && ((Fa.glo "Share").ok K && (freeB K ["isinstance", "int", "bool", "abs", "len", "range", "max", "min"] && (ownB K (ga K "Share") &&
  (decide (kitOne K (.ref (ga K "Share")) (.ref (ga K "Share")) = some true) && (decide (kitOne K (.ref (ga K "Share")) (.type "int") = some false) && (decide (kitOne K (.type "int") (.ref (ga K "Share")) = some false) && ([.type "bool", .type "str", .type "NoneType", .type "list", .type "tuple", .type "dict"] : List Value).all fun t => decide (kitOne K t (.ref (ga K "Share")) = some false))))))))))
def numsB (K : Frag) : Bool := numB K (ga K "Share") "add" && (numB K (ga K "Share") "sub" && numB K (ga K "Share") "mul")
def neB (K : Frag) (C : Addr) : Bool := eqO (findIn K (.ref C) "__ne__") (some (some (.builtin "object.__ne__"))) && decide (mroIn K C (.type "object") = some true)
def rflB (K : Frag) (C : Addr) (nm : String) : Bool := findB K C (dunderR nm)
def noiB (K : Frag) (C : Addr) (nm : String) : Bool := (clsIn K C).any (fun cd => decide (cd.mro = [.ref C, .type "object"])) && (eqO (findIn K (.ref C) (dunderI nm)) (some none) && decide (fastLookup "object" (dunderI nm) = some none))
def txtB (K : Frag) (x z : Str) : Bool := match nsIn K mainGlobals x with
  | some (some (.str y _)) => decide (y = z)
  | _ => false
def intB (K : Frag) (x : Str) (i : Int) : Bool := match nsIn K mainGlobals x with
  | some (some (.int j _)) => decide (j = i)
  | _ => false
def excObjB (K : Frag) (C P : Addr) : Bool := match K.lookup C with
  | some ⟨.type "type", _, .cls cd, sl⟩ => (match sl.toList with
    | [_, _, _, _, some (.builtin n), _] => decide (cd.mro = .ref C :: .ref P :: ESX.exTail) && (decide (n = "Exception.__new__") && (!cd.hasDel && cd.hasDict))
    | _ => false)
  | _ => false
def excB (K : Frag) (x fl : Str) : Bool := excObjB K (ga K x) (ga K "PlanError") && ((Fa.glo x).ok K && (eqO (findIn K (.ref (ga K x)) "__setattr__") (some (some (.builtin "object.__setattr__"))) && (eqO (findIn K (.ref (ga K x)) fl) (some none) &&
  (keepIn K (.ref (ga K x)) && (decide (typeIn K (.ref (ga K x)) = some (.type "type")) && xfB K (ga K x))))))
def exmB (K : Frag) (x y : Str) (b : Bool) : Bool := decide (exmOne K (.ref (ga K x)) (.ref (ga K y)) = some b)
def noSubB (K : Frag) (C : Addr) (Ts : List String) : Bool := Ts.all fun T => decide (subIn K (.ref C) (.type T) = some false)
def prB (K : Frag) : Bool := (Fa.cls "Prices").ok K && ((Fa.mkr "Prices").ok K && ((Fa.noat "Prices" "own_make").ok K && ((Fa.noat "Prices" "own_general_make").ok K && ((Fa.noat "Prices" "pairs").ok K && ((Fa.glo "Prices").ok K && (freeB K ["isinstance", "int", "bool", "str", "list", "len", "all", "sorted", "tuple", "dict"] && (ownB K (ga K "Prices") &&
  (decide (kitOne K (.ref (ga K "Prices")) (.ref (ga K "Prices")) = some true) && (txtB K "LETTERS" "abcdefghijklmnopqrstuvwxyz" && (intB K "MOST_LETTERS" 8 && intB K "MOST_KINDS" 6))))))))))
def relsB : List V → List Value → Bool
  | [], [] => true
  | v :: vs, u :: us => relVB v u && relsB vs us
  | _, _ => false
def tupB (K : Frag) (x : Str) (xs : List V) : Bool := match nsIn K mainGlobals x with
  | some (some (.ref a)) => (match K.lookup a with
    | some ⟨.type "tuple", _, .seq its _, _⟩ => decide (its.size ≤ sizeLine) && relsB xs its.toList
    | _ => false)
  | _ => false
def bkKws : List (Str × V) := [("factor", .int 1), ("equal", .bl false), ("sliding", .bl false), ("after", .str "ever"), ("keep", .bl true)]
def bkB (K : Frag) : Bool := (Fa.cls "Book").ok K && ((Fa.mkr "Book").ok K && ((Fa.noat "Book" "settings").ok K && ((Fa.glo "Book").ok K && (ownB K (ga K "Book") && (decide (kitOne K (.ref (ga K "Book")) (.ref (ga K "Book")) = some true) && (decide (kitOne K (.type "int") (.ref (ga K "Book")) = some false) &&
  (freeB K ["str", "tuple", "len", "all", "isinstance"] && (txtB K "EVER" "ever" && (intB K "MOST_TRIES" 6 && (intB K "MOST_LOOK" 9 && (tupB K "FIELDS" [.str "tries", .str "told", .str "factor", .str "equal", .str "sliding", .str "after", .str "keep"] && kwdB K (ma K (ga K "Book") "__init__") bkKws)))))))))))
def pyB (K : Frag) : Bool := (Fa.cls "Player").ok K && ((Fa.mkr "Player").ok K && ((Fa.noat "Player" "own_book").ok K && ((Fa.noat "Player" "own_prices").ok K && ((Fa.noat "Player" "own_state").ok K && ((Fa.noat "Player" "own_paid").ok K && ((Fa.noat "Player" "own_asked").ok K && (Fa.glo "Player").ok K))))))
def psetB (K : Frag) (x nm : Str) : Bool := eqO (takerIn K (ga K x) nm) (some (some (.ref (ma K (ga K x) nm)))) && (match recIn K (ma K (ga K x) nm) "property" with
  | some (.ref _ :: .ref g :: _) => decide (g = rec1 K (ma K (ga K x) nm) "property")
  | _ => false)
def topB (K : Frag) (x : Str) : Bool := match clsIn K (ga K x) with
  | some cd => (match cd.mro with
    | .ref C :: _ => decide (C = ga K x)
    | _ => false)
  | none => false
def rnoB (K : Frag) (C : Addr) (nm : String) : Bool := eqO (findIn K (.ref C) (dunderR nm)) (some none)
def kitsL (K : Frag) (x : Str) (Ts : List String) : Bool := Ts.all fun T => decide (kitOne K (.type T) (.ref (ga K x)) = some false)
def mnB (K : Frag) : Bool := (Fa.cls "Menu").ok K && ((Fa.mkr "Menu").ok K && ((Fa.noat "Menu" "own_books").ok K && ((Fa.glo "Menu").ok K && (ownB K (ga K "Menu") && (decide (kitOne K (.ref (ga K "Menu")) (.ref (ga K "Menu")) = some true) && (intB K "MOST_BOOKS" 64 && freeB K ["all", "len", "isinstance"]))))))
end Ps

/-! Own errors over PlanError(Exception) whose __init__ keeps one field: made, raised, caught, read. -/
namespace Ps
open PySem PySem.W PySem.Calls PyProof.Rows PySem.HandSPX He

def xA (fl : Str) (p1 p2 : Pos) : Arguments := { posonlyargs := [], args := [{ arg := "self", annotation := none, pos := p1 }, { arg := fl, annotation := none, pos := p2 }], vararg := none, kwonlyargs := [], kw_defaults := [], kwarg := none, defaults := [] }
def xB (fl : Str) (q1 q2 q3 q4 : Pos) : List Stmt := [.Assign [.Attribute (.Name "self" q1) fl q2] (.Name fl q3) q4]
def xS (fl : Str) : Scope := { kind := .function, names := [(PySem.Str.ofString "self", .local), (fl, .local)], isGenerator := false, isCoroutine := false, more := [] }
/-- what the written part says of the error's class at C (its base at P), and of its __init__, at fI -/
structure ExT (K : Frag) (mg : Str → Option Value) (x fl qual : Str) (C P fI : Addr) : Prop where
  gC : mg x = some (.ref C)
  cls : ∃ nm q N bs sn sub ab col dd k0 k1 k2 k3 k5, K.lookup C = some (excClassObj nm q C N bs (.ref P :: ESX.exTail) true sn sub ab col dd k0 k1 k2 k3 k5 "Exception.__new__")
  sa : findIn K (.ref C) "__setattr__" = some (some (.builtin "object.__setattr__"))
  noN : findIn K (.ref C) fl = some none
  iC : findIn K (.ref C) "__init__" = some (some (.ref fI))
  tC : typeIn K (.ref fI) = some (.type "function")
  kC : keepIn K (.ref C) = true
  tyC : typeIn K (.ref C) = some (.type "type")
  xf : L2.XfC K C
  fn : ∃ (oc : Value) (od : Option Addr) (kV doc pm : Value) (an : Option Addr) (cdv ct : Value) (osl : Array (Option Value)) (p1 p2 q1 q2 q3 q4 : Pos),
    K.lookup fI = some ⟨oc, od, .func (fnOf "__init__" qual (xA fl p1 p2) (xB fl q1 q2 q3 q4) (xS fl) .none kV doc pm an cdv ct), osl⟩ ∧ codeIn K cdv qual = true
theorem one_size (v : Value) : [v].length ≤ sizeLine := by
  rw [sizeLine_eq]
  exact (by decide : 1 ≤ 16777216)
/-! ### self.f = f on a fresh error -/
section
open Builtin Builtin.ObjectAttr
variable {prog : Program} {w : World} {A : Around} {E : Value → Shared → Prop} {R : Result → Shared → Prop} {hp : Heap} {g : Array GenState} {d : Drawn} {t : Nat} {os : OsState}
theorem tailP_has {C P : Addr} (X : String) (hX : ESX.exTail.contains (.type X) = true) : (Value.ref C :: .ref P :: ESX.exTail).contains (.type X) = true := by
  rw [List.contains_cons, List.contains_cons, hX, Bool.or_true, Bool.or_true]
theorem tailP_eq {P : Addr} (X : String) : (Value.ref P :: ESX.exTail).contains (.type X) = ESX.exTail.contains (.type X) := by
  rw [List.contains_cons]
  rfl
theorem osa_P {K : Frag} {name : Str} {tk : Tok} {v : Value} {x C P : Addr} {fv : Array Value} {cd : ClassData}
    (X : K.In hp) (hx : hp.get? x = some { cls := .ref C, data := .fields fv }) (hcd : clsIn K C = some cd) (hm : cd.mro = .ref C :: .ref P :: ESX.exTail) (hh : cd.hasDict = true) (ha : findIn K (.ref C) name = some none)
    (hq : ∀ h' tk' dx, (∀ b o, b ≠ x → hp.get? b = some o → h'.get? b = some o) → hp.objs.size ≤ dx → dx ≠ x → h'.get? x = some { cls := .ref C, dict := some dx, data := .fields fv } →
      h'.Ns1 dx (fun y => if y = name then some v else none) → R (.ok (.ret .none)) ⟨h', g, d, tk', os⟩) :
    codeAny (model prog w) A (.call (.builtin "object.__setattr__") ⟨[.ref x, .str name tk, v], []⟩) R ⟨hp, g, d, t, os⟩ := by
  have I : InstAt hp x { cls := .ref C, data := .fields fv } C none := ⟨hx, rfl, rfl, trivial⟩
  have hxs : x ≠ hp.objs.size := Nat.ne_of_lt (Heap.lt_size hx)
  have SF := F.store_object
  have mro : mroIn K C (.type "object") = some true := by
    unfold mroIn
    rw [hcd, Option.bind_some, hm, if_neg (show ¬ (List.isEmpty (Value.ref C :: .ref P :: ESX.exTail) = true) from Bool.false_ne_true), tailP_has "object" (by decide +kernel)]
  have sub : Looks (model prog w) hp (isInstance (.ref x) (.type "object")) true := I.type.andThen (looks_mroIn X mro)
  refine codeAny_call_builtin SF.slot.plain SF.entry (@check_slot (model prog w) _ _ ⟨hp, g, d, t, os⟩ "object.__setattr__" "object" "__setattr__" (.ref x) [.str name tk, v] [] _ SF.kind SF.split sub (SF.args (.ref x) (.str name tk) v) ?_)
  have hmr : Looks (model prog w) hp (mroOf (.ref C)) cd.mro := (looks_clsIn X hcd).andThen .now
  have L3 : Looks (model prog w) hp (storeTaker? none) none := .now
  have hpass : refuseLoop (.ref x) "__setattr__" cd.mro = pure () := by
    rw [hm, refuseLoop_ref, refuseLoop_ref]
    exact F.store_Exception.passes _
  rw [osa_eq, refuse_eq]
  refine wpAny_bind (wpAny_bind (I.type.at (wpAny_bind (hmr.at ?_))))
  rw [hpass]
  refine wpAny_pure (wpAny_bind (I.type.at (wpAny_bind ((looks_findIn X ha).at (wpAny_bind (L3.at ?_))))))
  show wpAny _ _ (storeInOwnDict (.ref x) (.ref C) (.str name tk) name v false) _ _ _
  have hcls : Looks (model prog w) hp (classData C) cd := looks_clsIn X hcd
  obtain ⟨nm, bs, mro, ns, qn, hd, sn, sb, ab, col, del⟩ := cd
  dsimp only at hh
  subst hh
  unfold storeInOwnDict ownDictForStores
  repeat (first | with_reducible refine HandSPX.store_in_new ?_ ?_ | with_reducible refine wpAny_loadPart_at hx ?_ | with_reducible refine hcls.at ?_ | wp_step)
  · exact ⟨_, #[], _, (Heap.get?_update_ne _ _ _ _ hxs.symm).trans (Heap.get?_push_at rfl rfl), rfl, fun e he => absurd he (by simp), fun _ => rfl⟩
  · intro h' tk' hn' hs
    have hx₁ : (hp.push { cls := .type "dict", data := .dict #[] }).get? x = some { cls := .ref C, data := .fields fv } := Heap.get?_push_of_some _ hx
    refine hq h' tk' hp.objs.size (fun b o hb ho => ?_) (Nat.le_refl _) hxs.symm ?_ hn'
    · exact (hs.2 b (Nat.ne_of_lt (Heap.lt_size ho))).trans ((Heap.get?_update_ne _ _ _ _ hb).trans (Heap.get?_push_of_some _ ho))
    · exact (hs.2 x hxs).trans (Heap.get?_update_self _ hx₁ rfl)
end
theorem ldX {M : Model} {s : Shared} {name : Str} {scope : Scope} {L a : Addr} {cd : Value} {m : Str → Option Value} {x : Str} {pos : Pos} {v : Value} {Q : Value → Shared → Prop} {A : Around} {E : Value → Shared → Prop} (hn : s.heap.Ns L m) (hv : m x = some v) (h : Q v s)
    (hl : (envOfC name scope L a cd).kindOf x = some .local) (hd : (x == ("__debug__" : Str)) = false) (hk : scope.kind = .function := by rfl) :
    wpAny M A (eval (.Name x pos) (envOfC name scope L a cd)) Q E s := wpAny_Name (wpAny_loadName_local hk hl hn hv h) hd
/-- what __init__ leaves of a fresh error at x -/
structure XInit (h h' : Heap) (x C dx t1 : Addr) (fl : Str) (v : Value) : Prop where
  keep : ∀ b o, b ≠ x → h.get? b = some o → h'.get? b = some o
  obj : h'.get? x = some { cls := .ref C, dict := some dx, data := .fields #[.ref t1, .none, .none, .none, .bool false, .none] }
  dbig : h.objs.size ≤ dx
  dne : dx ≠ x
  ns : h'.Ns1 dx (fun y => if y = fl then some v else none)
/-- a made error -/
structure XMade (h h' : Heap) (e C d : Addr) (fl : Str) (v : Value) : Prop where
  keep : ∀ b o, h.get? b = some o → h'.get? b = some o
  new : h.objs.size ≤ e
  obj : ∃ t1, h'.get? e = some { cls := .ref C, dict := some d, data := .fields #[.ref t1, .none, .none, .none, .bool false, .none] }
  dbig : h.objs.size ≤ d
  dne : d ≠ e
  ns : h'.Ns1 d (fun y => if y = fl then some v else none)
/-- a field's name that is no special one -/
structure FlOk (fl : Str) : Prop where
  bind : ∀ (qual : Str) (p1 p2 : Pos) (b : List Stmt) (sc : Scope) (kV doc pm : Value) (an : Option Addr) (cdv ct a v : Value), bindArgs (fnOf "__init__" qual (xA fl p1 p2) b sc .none kV doc pm an cdv ct) ⟨[a, v], []⟩ = pure [(("self" : Str), a), (fl, v)]
  all_ : ∀ a v : Value, ([(("self" : Str), a), (fl, v)].all fun y => List.lookup y.fst (xS fl).names == some NameKind.local || List.lookup y.fst (xS fl).names == some NameKind.cell) = true
  bf : ∀ (qual : Str) (L f : Addr) (cdv a v : Value), bindL (envOfC qual (xS fl) L f cdv).kindOf [(("self" : Str), a), (fl, v)] (fun _ => none) fl = some v
  bs : ∀ (qual : Str) (L f : Addr) (cdv a v : Value), bindL (envOfC qual (xS fl) L f cdv).kindOf [(("self" : Str), a), (fl, v)] (fun _ => none) "self" = some a
  ks : ∀ (qual : Str) (L f : Addr) (cdv : Value), (envOfC qual (xS fl) L f cdv).kindOf "self" = some .local
  kf : ∀ (qual : Str) (L f : Addr) (cdv : Value), (envOfC qual (xS fl) L f cdv).kindOf fl = some .local
  dbg : (fl == ("__debug__" : Str)) = false
theorem fl_value : FlOk "value" := ⟨fun _ _ _ _ _ _ _ _ _ _ _ _ _ => rfl, fun _ _ => rfl, fun _ _ _ _ _ _ => rfl, fun _ _ _ _ _ _ => rfl, fun _ _ _ _ => rfl, fun _ _ _ _ => rfl, by decide⟩
section
variable {prog : Program} {w : World} {A : Around} {E : Value → Shared → Prop} {R : Result → Shared → Prop} {s : Shared} {K : Frag} {mg : Str → Option Value} {x0 fl qual : Str} {C P fI : Addr}
theorem x_init (T : ExT K mg x0 fl qual C P fI) (hf : FlOk fl) {x t0 : Addr} {v : Value} (X : K.In s.heap) (hlim : s.heap.NoLimit) (hx : s.heap.get? x = some (excO C t0)) (hroom : A.depth < recursionLimit)
    (hq : ∀ h' tk dx, XInit s.heap h' x C dx t0 fl v → R (.ok (.ret .none)) { s with heap := h', toks := tk }) :
    codeAny (model prog w) A (.call (.ref fI) ⟨[.ref x, v], []⟩) R s := by
  obtain ⟨oc, od, kV, doc, pm, an, cdv, ct, osl, p1, p2, q1, q2, q3, q4, ho, hcd⟩ := T.fn
  obtain ⟨nm, q, N, bs, sn, sub, ab, col, dd, k0, k1, k2, k3, k5, hC⟩ := T.cls
  have hcl : clsIn K C = some { name := nm, bases := bs, mro := .ref C :: .ref P :: ESX.exTail, ns := N, qualname := q, hasDict := true, slotNames := sn, subclasses := sub, abstract := ab, collection := col, hasDel := false } := by unfold clsIn; rw [hC] <;> rfl
  refine Att.call_fn (binds := [("self", .ref x), (fl, v)]) X hlim ho hcd hroom (BindsTo.of_eq (hf.bind _ _ _ _ _ _ _ _ _ _ _ _ _)) (hf.all_ _ _) (fun s₁ IC => ?_) rfl rfl rfl
  obtain ⟨h₁, tk₁, rfl⟩ := IC.toInCall.same
  have k : ∀ b o, s.heap.get? b = some o → h₁.get? b = some o := IC.toInCall.keep
  have hn := IC.toInCall.ns
  have hxL : s.heap.objs.size ≠ x := Nat.ne_of_gt (Heap.lt_size hx)
  have X₁ : K.In h₁ := X.keeps k
  have hx₁ := k _ _ hx
  show wpAny _ _ (execs _ _) _ _ _
  refine wpAny_execs_cons (plainObj_wpAny_Assign_Attribute ?_)
  refine ldX (v := v) hn (hf.bf _ _ _ _ _ _) (ldX (v := .ref x) hn (hf.bs _ _ _ _ _ _) ?_ (hf.ks _ _ _ _) (by decide)) (hf.kf _ _ _ _) hf.dbg
  refine set_plain X₁ (ox := excO C t0) (od := none) ⟨hx₁, rfl, rfl, trivial⟩ T.sa ?_
  refine osa_P X₁ hx₁ hcl rfl rfl T.noN (fun h₃ tk₃ dx k₃ dn dne hx₃ hn₃ => ?_)
  show wpAny _ _ (execs _ _) _ _ _
  have z : s.heap.objs.size < h₁.objs.size := hn.lt
  exact wpAny_execs_nil (hq h₃ tk₃ dx ⟨fun b o hb e => k₃ b o hb (k b o e), hx₃, Nat.le_of_lt (Nat.lt_of_lt_of_le z dn), dne, hn₃⟩)
theorem x_made (T : ExT K mg x0 fl qual C P fI) (hf : FlOk fl) {v : Value} (X : K.In s.heap) (hlim : s.heap.NoLimit) (hroom : A.depth + 1 < recursionLimit)
    (hq : ∀ h' tk e d, XMade s.heap h' e C d fl v → R (.ok (.ret (.ref e))) { s with heap := h', toks := tk }) :
    codeAny (model prog w) A (.call (.ref C) ⟨[v], []⟩) R s := by
  obtain ⟨nm, q, N, bs, sn, sub, ab, col, dd, k0, k1, k2, k3, k5, hC⟩ := T.cls
  obtain ⟨hp, g, dr, tk, os⟩ := s
  have k : ∀ b o, hp.get? b = some o → ((hp.push (kdv_tup [v])).push (excO C hp.objs.size)).get? b = some o := fun b o e => Heap.get?_push_of_some _ (Heap.get?_push_of_some _ e)
  have hget : ((hp.push (kdv_tup [v])).push (excO C hp.objs.size)).get? (hp.objs.size + 1) = some (excO C hp.objs.size) := by heap_get
  refine call_own F.excBase_Exception (fun X => tailP_eq X) (X _ _ hC) (looks_findIn X T.iC) (fun self => bind_fn X self T.tC) (one_size v) ?_
  refine x_init (s := ⟨(hp.push (kdv_tup [v])).push (excO C hp.objs.size), g, dr, tk, os⟩) T hf (X.keeps k) (hlim.keeps k) hget ?_ fun h' tk' dx ⟨k', hx, dn, dne, hns⟩ => ?_
  · show A.depth + 1 < recursionLimit
    exact hroom
  · have old : ∀ b o, hp.get? b = some o → h'.get? b = some o := fun b o e => k' b o (Nat.ne_of_lt (Nat.lt_succ_of_lt (Heap.lt_size e))) (k b o e)
    have z : hp.objs.size + 1 + 1 ≤ dx := by
      first
        | (simpa only [Heap.size_push] using dn)
        | exact dn
        | (have q := dn; rw [Heap.size_push, Heap.size_push] at q; exact q)
    exact ⟨rfl, hq h' tk' (hp.objs.size + 1) dx ⟨old, Nat.le_succ _, ⟨_, hx⟩, Nat.le_trans (Nat.le_trans (Nat.le_succ _) (Nat.le_succ _)) z, dne, hns⟩⟩
end
open PySem.Spec L2
theorem relO_x {fl : Str} {v : V} {v' : Value} (r : RelV v v') (f : Str) : RelO (List.lookup f [(fl, v)]) (if f = fl then some v' else none) := by
  by_cases hw : f = fl
  · subst hw
    rw [if_pos rfl]
    have q : List.lookup f [(f, v)] = some v := by simp [List.lookup]
    rw [q]
    exact r
  · rw [if_neg hw]
    have qw : (f == fl) = false := by simpa using hw
    have q2 : List.lookup f [(fl, v)] = none := by simp [List.lookup, qw]
    rw [q2]
    trivial
section
variable {X : Cx} {C P fI : Addr} {x0 fl qual : Str}
/-- X(e) -/
def tMkX (C : Addr) (fl : Str) (ta : TA) : L2.St → Hp → XK → Prop := fun σ H Q => ta σ H fun vs H1 => ∃ v, vs = [v] ∧ ∀ d, H1 d = none → Q (.ref C) (some d) (L2.upd H1 d (.xd [(fl, v)]))
theorem pmk_x {a : Expr} {ta : TA} {p pos : Pos} {k : Nat} (T : ExT X.K X.mg x0 fl qual C P fI) (hf : FlOk fl) (hr : Room k X.A) (ha : PA X [a] ta) (hg : Gl X x0)
    (he : starEach (a :: []) X.env = (false, eval a X.env) :: starEach [] X.env := by rfl) (hpl : (backTo pos (starEach [] X.env)).any (·.1) = false := by rfl) (hdb : (x0 == ("__debug__" : Str)) = false := by decide) :
    L2N.PMk X (.Call (.Name x0 p) [a] [] pos) (tMkX C fl ta) := by
  intro pins s σ H Q I h
  refine wpAny_Call_Name_kw (ld_glob I hg T.gC ?_ hdb)
  refine callWith_K (h₀ := X.base) I.ok.mod.kin T.kC (thn (ha.run pos pins s σ H _ I h) fun us s1 hh => ?_) he hpl
  obtain ⟨vs, H1, I1, r1, v, ev, q1⟩ := hh
  subst ev
  refine ⟨I1.kIn, ?_⟩
  cases r1 with
  | cons rv rn =>
    rename_i v' us'
    cases rn
    show wpAny _ _ (call (.ref C) [v']) _ _ _
    have hlim := I1.nolimit
    obtain ⟨hp, g, dr, tk, os⟩ := s1
    refine wpAny_call (x_made T hf I1.kIn hlim (by have := hr.dp; omega) fun h' tk' e d M => ?_)
    show L2N.MkP X pins σ Q (.ref e) ⟨h', g, dr, tk', os⟩
    obtain ⟨t1, hoe⟩ := M.obj
    have hns := M.ns
    obtain ⟨G', g1, g2⟩ := restrict h' fun b => decide (b ≠ e)
    have gk : ∀ b, b ≠ e → G'.get? b = h'.get? b := fun b hb => g1 b (decide_eq_true hb)
    have ge : G'.get? e = none := g2 e (by simp)
    have old : ∀ b o, hp.get? b = some o → G'.get? b = some o := fun b o q => (gk b (Nat.ne_of_lt (Nat.lt_of_lt_of_le (Heap.lt_size q) M.new))).trans (M.keep b o q)
    have ob : ObjOk X.prog X.w (L2.upd H1 d (.xd [(fl, v)])) G' d (.xd [(fl, v)]) :=
      ⟨_, hns.at (fun o q => (gk d M.dne).trans q), fun f => relO_x rv f⟩
    have J : L2.Inv X pins σ (L2.upd H1 d (.xd [(fl, v)])) ⟨G', g, dr, tk', os⟩ := I1.laid (t' := tk') old M.dbig ob
    refine ⟨e, _, _, ⟨G', g, dr, tk', os⟩, _, .ref C, some d, rfl, J, fun b o q => ?_, ge, hoe, ⟨rfl, rfl, fun vs e => by cases e; rfl⟩, rfl, rfl, ?_, rfl, I1.bare, raises_own T.xf.exC T.tyC, q1 d (I1.hok.fresh M.dbig)⟩
    · by_cases hb : b = e
      · have q' : G'.get? b = some o := q
        rw [hb, ge] at q'; cases q'
      · exact (gk b hb).symm.trans q
    · rw [upd_ne (Ne.symm M.dne)]
      exact I1.hok.fresh M.new
/-- raise X(e) -/
def tRaiseX (C : Addr) (fl : Str) (W : WX) (ta : TA) : TS := fun _ σ H => tMkX C fl ta σ H fun cls d H' => W cls d σ H'
theorem ps_raiseX {a : Expr} {ta : TA} {W : WX} {p pos pos2 : Pos} {k : Nat} (T : ExT X.K X.mg x0 fl qual C P fI) (hf : FlOk fl) (hr : Room k X.A) (tk : L2N.Takes X W) (ha : PA X [a] ta) (hg : Gl X x0) (hc : X.calm = true := by rfl)
    (he : starEach (a :: []) X.env = (false, eval a X.env) :: starEach [] X.env := by rfl) (hpl : (backTo pos (starEach [] X.env)).any (·.1) = false := by rfl) (hdb : (x0 == ("__debug__" : Str)) = false := by decide) :
    PS X (.Raise (some (.Call (.Name x0 p) [a] [] pos)) none pos2) (tRaiseX C fl W ta)   := L2N.ps_raise hc tk (pmk_x T hf hr ha hg he hpl hdb)
end
end Ps

/-! try with several named clauses; calls whose errors are wished for at the caller's slots. -/
namespace Ps
open PySem PySem.Spec PyProof.Rows L2

/-- a clause: the class, the name's slot, the suite's reading -/
abbrev Cl : Type := Value × Nat × (Addr → Value → Option Addr → TS)
/-- the ends of a suite whose name goes behind it -/
def endsN (D : Ends) (i : Nat) : Ends := { nx := fun σ' H' => D.nx (σ'.set i none) H', rt := D.rt, bk := fun σ' H' => D.bk (σ'.set i none) H', ct := fun σ' H' => D.ct (σ'.set i none) H' }
def wN (K : PySem.W.Frag) (Wout : WX) (D : Ends) : List Cl → WX
  | [] => Wout
  | (c, i, ts) :: r => fun cls d σ H => ∃ b, PySem.W.exmOne K cls c = some b ∧ (b = true → ∀ a, H a = none → ts a cls d (endsN D i) (σ.set i (some (.ref a))) H) ∧ (b = false → wN K Wout D r cls d σ H)
inductive HdsN (X : Cx) : List ExceptHandler → List Cl → Prop
  | nil : HdsN X [] []
  | cons {x n : Str} {c : Value} {i : Nat} {ts : Addr → Value → Option Addr → TS} {b₀ : Stmt} {suite : List Stmt} {np pos' : Pos} {hds : List ExceptHandler} {l : List Cl} (hi : X.N[i]? = some n) (hln : X.env.kindOf n = some .local) (hc : Names X x c)
      (hsu : ∀ (a : Addr) (oe : Obj) (cls : Value) (d : Option Addr) (pn : List (Addr × Obj)), L2N.Zn cls d oe → (∃ vs, oe.data = .fields vs) → PSs (X.suite a ((a, oe) :: pn)) (b₀ :: suite) (ts a cls d)) (r : HdsN X hds l) :
      HdsN X (.ExceptHandler (some (.Name x np)) (some n) (b₀ :: suite) pos' :: hds) ((c, i, ts) :: l)
/-- the error has landed: s is the state, sI the one without it -/
structure Down (X : Cx) (pins : List (Addr × Obj)) (a : Addr) (B : Heap) (cls : Value) (d : Option Addr) (σ : L2.St) (H : Hp) (sI s : Shared) : Prop where
  inv : L2.Inv X pins σ H sI
  nb : ∀ b o, sI.heap.get? b = some o → b ∉ frs X.stack → B.get? b = some o
  up : sI.heap.UpToSlots s.heap
  fl : HandSPX.FlyingZ B (X.env :: X.outer) a (L2N.Zn cls d) s.heap
  na : H a = none
  os : s.os = sI.os
  ag : AllBare s.gens
section
variable {X : Cx} {pins : List (Addr × Obj)} {a : Addr} {B : Heap} {cls : Value} {d : Option Addr} {σ : L2.St} {H : Hp} {sI s : Shared} {Wout : WX} {D : Ends}
theorem Down.here (G : Down X pins a B cls d σ H sI s) : L2.Inv X pins σ H s := G.inv.landed G.nb G.fl.1 G.up G.os G.ag
theorem Down.off (G : Down X pins a B cls d σ H sI s) (hf : X.env.frame = some X.env.locals) : a ≠ X.env.locals ∧ a ∉ X.fs := by
  obtain ⟨oe, vs, he, hz, hd⟩ := G.fl.there
  have nfr : a ∉ frs (X.env :: X.outer) := fun hm => by
    obtain ⟨_, o', e', hnf⟩ := G.fl.2.2.1.mem hm
    rw [he] at e'
    cases e'
    exact hnf _ hd
  refine ⟨fun z => nfr (List.mem_filterMap.mpr ⟨X.env, List.mem_cons_self, by rw [hf, z]⟩), fun hm => ?_⟩
  obtain ⟨e, h1, q⟩ := List.mem_filterMap.mp hm
  exact nfr (List.mem_filterMap.mpr ⟨e, List.mem_cons_of_mem _ h1, q⟩)
/-- no clause is left: it goes on -/
theorem down_nil (G : Down X pins a B cls d σ H sI s) (hs : X.stack = X.env :: X.outer) (hf : X.env.frame = some X.env.locals) (tk : L2N.Takes X Wout) (w : Wout cls d σ H) : wpAny (model X.prog X.w) X.A (handleBy (.ref a) X.env []) (SP X pins D) X.xe s := by
  refine wpAny_handleBy_nil ?_
  obtain ⟨k1, k2, k3, oe, vs, T, oT, ts', he, hz, hd, h1, hr⟩ := id G.fl
  unfold PySem.passOn
  refine wpAny_bind (wpAny_field he hd h1 ?_)
  rw [if_neg (show ¬ ((Value.ref T == Value.none) = true) from by simp)]
  have fin : wpAny (model X.prog X.w) X.A (setFlight (.ref a) X.env.frame) (fun _ s4 => wpAny (model X.prog X.w) X.A (throw (.ref a) : Sem Flow) (SP X pins D) X.xe s4) X.xe s := by
    rw [hf]
    refine HandSPX.setFlight_upZ G.fl fun h4 hh4 up4 => wpAny_throw (tk _ _ ?_)
    exact ⟨a, B, sI, pins, σ, H, cls, d, rfl, G.inv, G.nb, G.up.trans up4, .inr (.inr (by rw [hs]; exact hh4)), G.na, G.os, G.ag, w⟩
  first
    | exact wpAny_bind (wpAny_pure (wpAny_bind fin))
    | exact wpAny_bind fin
/-- the clause's suite runs -/
theorem down_suite {n : Str} {i : Nat} {ts : Addr → Value → Option Addr → TS} {b₀ : Stmt} {suite : List Stmt} {pos' : Pos} {Q : Flow → Shared → Prop} {E1 E2 : Value → Shared → Prop} (G : Down X pins a B cls d σ H sI s) (hf : X.env.frame = some X.env.locals) (hN : X.N.Nodup) (hi : X.N[i]? = some n) (hln : X.env.kindOf n = some .local)
    (hsu : ∀ (a : Addr) (oe : Obj) (cls : Value) (d : Option Addr) (pn : List (Addr × Obj)), L2N.Zn cls d oe → (∃ vs, oe.data = .fields vs) → PSs (X.suite a ((a, oe) :: pn)) (b₀ :: suite) (ts a cls d))
    (w : ts a cls d (endsN D i) (σ.set i (some (.ref a))) H) (hQ : ∀ f s', SP X pins D f s' → Q f s') :
    wpAny (model X.prog X.w) (X.A.mark (some (.ref a))) (storeName X.env n (.ref a)) (fun _ s5 => wpAny (model X.prog X.w) (X.A.mark (some (.ref a))) (execs (b₀ :: suite) X.env)
      (fun f s6 => wpAny (model X.prog X.w) X.A (do bindName X.env n .none; unbindBehindTheSuite X.env n pos') (fun _ s7 => Q f s7) X.xe s6) E2 s5) E1 s := by
  obtain ⟨oe, vs, he, hz, hd⟩ := G.fl.there
  have J := G.here
  obtain ⟨nL, nF⟩ := G.off hf
  have S4 := J.suite he hd G.na nL nF
  refine store_ok (X := X.suite a ((a, oe) :: (X.pn ++ pins))) (v := .ref a) S4 hN hi (.inl hln) rfl (fun s5 S5 => ?_) (.inr hln)
  refine wpAny_mono ((hsu a oe cls d (X.pn ++ pins) hz ⟨_, hd⟩).run [] s5 _ H _ S5 w) (fun f s6 hsp => ?_) (fun _ _ z => False.elim z)
  have away : ∀ {σ6 : L2.St} {H6 : Hp}, L2.Inv (X.suite a ((a, oe) :: (X.pn ++ pins))) [] σ6 H6 s6 → (∀ s7, L2.Inv X pins (σ6.set i none) H6 s7 → SP X pins D f s7) →
      wpAny (model X.prog X.w) X.A (do bindName X.env n .none; unbindBehindTheSuite X.env n pos') (fun _ s7 => Q f s7) X.xe s6 := fun {σ6 H6} S6 hq => gone_ok (S6.unsuite J.ok) hN hi hln fun s7 J7 => hQ _ _ (hq s7 J7)
  cases f with
  | next => obtain ⟨σ6, H6, S6, q6⟩ := hsp; exact away S6 fun s7 J7 => ⟨_, _, J7, q6⟩
  | brk => obtain ⟨σ6, H6, S6, q6⟩ := hsp; exact away S6 fun s7 J7 => ⟨_, _, J7, q6⟩
  | cont => obtain ⟨σ6, H6, S6, q6⟩ := hsp; exact away S6 fun s7 J7 => ⟨_, _, J7, q6⟩
  | ret u => obtain ⟨v6, σ6, H6, S6, r6, q6⟩ := hsp; exact away S6 fun s7 J7 => ⟨_, _, _, J7, r6, q6⟩
theorem down_all (hs : X.stack = X.env :: X.outer) (hf : X.env.frame = some X.env.locals) (hN : X.N.Nodup) (tk : L2N.Takes X Wout) : ∀ {hds : List ExceptHandler} {l : List Cl}, HdsN X hds l → ∀ {s : Shared}, Down X pins a B cls d σ H sI s → wN X.K Wout D l cls d σ H →
    wpAny (model X.prog X.w) X.A (handleBy (.ref a) X.env hds) (SP X pins D) X.xe s
  | _, _, .nil, s, G, w => down_nil G hs hf tk w
  | _, _, @HdsN.cons _ x n c i ts b₀ suite np pos' hds l hi hln hc hsu r, s, G, w => by
    obtain ⟨b, hb1, hyes, hno⟩ := w
    obtain ⟨oe, vs, he, hz, hd⟩ := G.fl.there
    obtain ⟨nL, nF⟩ := G.off hf
    have S3 := G.here.suite he hd G.na nL nF
    refine wpAny_handleBy_cons (codeAny_handlers_test ?_) (by intro q; cases q)
    have LT : PySem.W.Looks (model X.prog X.w) s.heap (typeOf (.ref a)) cls := fun A Q E s k q => wpAny_typeOf_ref (k _ _ he) (by rw [hz.1]; exact q)
    have LM := PySem.W.exm_one (M := model X.prog X.w) G.here.kIn LT hb1
    have look : ∀ {Q : Value → Shared → Prop} {E : Value → Shared → Prop}, Q c s → wpAny (model X.prog X.w) (X.A.mark (some (.ref a))) (eval (.Name x np) X.env) Q E s := fun {Q E} q => by
      obtain ⟨hg, hdbg, hm | ⟨hm, hv, hnn⟩⟩ := hc
      · exact ld_glob (X := X.suite a ((a, oe) :: (X.pn ++ pins))) S3 hg hm q hdbg
      · exact ld_blt (X := X.suite a ((a, oe) :: (X.pn ++ pins))) S3 hg hm hv q hnn hdbg
    refine look (LM.here ?_)
    cases b with
    | false =>
      show wpAny _ X.A (handleBy (.ref a) X.env hds) _ _ _
      exact down_all hs hf hN tk r G (hno rfl)
    | true =>
      refine codeAny_handlers_suite_as ?_
      refine HandSPX.lands_againZ G.fl fun h4 fl4 up4 => ?_
      have G4 : Down X pins a B cls d σ H sI { s with heap := h4 } := ⟨G.inv, G.nb, G.up.trans up4, fl4, G.na, G.os, G.ag⟩
      exact down_suite G4 hf hN hi hln hsu (hyes rfl a G.na) (fun _ _ q => q)
end
section
variable {X : Cx} {body : List Stmt} {h₀ : ExceptHandler} {hds : List ExceptHandler} {l : List Cl} {pos : Pos} {tb : WX → TS} {Wout : WX}
/-- try: body / except A as n: .. / except B as n: .. -/
theorem ps_tryN (hs : X.stack = X.env :: X.outer) (hf : X.env.frame = some X.env.locals) (hN : X.N.Nodup) (tk : L2N.Takes X Wout)
    (hb : ∀ (W : WX) (pn : List (Addr × Obj)) (xe : Value → Shared → Prop), L2N.Takes (X.tr pn xe) W → PassesOwn (model X.prog X.w) X.A X.env xe → PSs (X.tr pn xe) body (tb W))
    (hh : HdsN X (h₀ :: hds) l) : PS X (.Try body (h₀ :: hds) [] [] pos) (fun D σ H => tb (wN X.K Wout D l) D σ H) := by
  refine ⟨fun pins s σ H D I h => ?_⟩
  have ok := I.ok
  have hfr : X.A.frames = some (X.env :: X.outer) := by rw [ok.frames, hs]
  refine wpAny_Try_except ?_
  have run := (hb (wN X.K Wout D l) (X.pn ++ pins) (fun e s₁ => wpAny (model X.prog X.w) X.A (noteFrame e X.env) (fun _ s₂ => wpAny (model X.prog X.w) X.A (setFlight e none) (fun _ s₃ =>
    wpAny (model X.prog X.w) X.A (handleBy e X.env (h₀ :: hds)) (SP X pins D) X.xe s₃) X.xe s₂) X.xe s₁) (fun u s' xx => ?_) PassesOwn.looking).run [] s σ H D (I.toTry _) h
  · refine wpAny_mono run (fun f s1 hsp => ?_) (fun e s1 he => he)
    cases f with
    | next => obtain ⟨σ', H', J', q⟩ := hsp; exact wpAny_execs_nil ⟨σ', H', J'.ofTry ok, q⟩
    | brk => obtain ⟨σ', H', J', q⟩ := hsp; exact ⟨σ', H', J'.ofTry ok, q⟩
    | cont => obtain ⟨σ', H', J', q⟩ := hsp; exact ⟨σ', H', J'.ofTry ok, q⟩
    | ret u => obtain ⟨v, σ', H', J', r, q⟩ := hsp; exact ⟨v, σ', H', J'.ofTry ok, r, q⟩
  · obtain ⟨a, B, sI, pins', σ', H', cls, d, rfl, J', nb, up, sky, na, os, ag, w⟩ := xx
    have sky' : Sky B (X.env :: X.outer) a (L2N.Zn cls d) X.env.locals s'.heap := by rw [← hs]; exact sky
    show wpAny (model X.prog X.w) X.A (noteFrame (.ref a) X.env) _ _ _
    refine L2N.Sky.land L2N.Zn.steady hfr hf sky' fun h3 fl3 up3 => ?_
    exact down_all hs hf hN tk hh (s := { s' with heap := h3 }) ⟨J'.ofTry ok, nb, up.trans up3, fl3, na, os, ag⟩ w
end
end Ps

/-! Own comparisons: an own instance on the left, anything on the right; an int on the left, an own instance on the right; != by ==; x op= y without an own in-place method. -/
namespace Ps
open PySem PySem.Spec PyProof.Rows PySem.W L2

section
variable {prog : Program} {w : World} {A : Around} {E : Value → Shared → Prop} {s : Shared} {K : Frag} {x C L f : Addr} {h₀ : Heap} {m : Str → Option Value} {ox : Obj} {od : Option Obj} {b tb : Value}

theorem ifBound_objNe {M : Model} {args : List Value} {Q : Option Value → Shared → Prop} (X : K.In s.heap) (I : InstAt s.heap x ox C od) (hs : findIn K (.ref C) "__ne__" = some (some (.builtin "object.__ne__")))
    (h : wpAny M A (call (.builtin "object.__ne__") (.ref x :: args)) (fun v => Q (some v)) E s) : wpAny M A (callSpecialIfBound? (.ref x) "__ne__" args) Q E s := by
  simp only [callSpecialIfBound?, bindSpecialIfBound?]
  refine wpAny_holding (wpAny_bind (wpAny_bind (wpAny_bind (I.type.here ((looks_findIn X hs).here ?_)))))
  refine wpAny_bind (wpAny_askSetting (wpAny_ite ?_))
  have fin : wpAny M A (call (.builtin "object.__ne__") ([.ref x] ++ args) >>= fun v => pure (some v)) Q E s := wpAny_bind (wpAny_mono h (fun v s' h' => wpAny_pure h') fun _ _ h' => h')
  split
  · exact wpAny_bind (wpAny_of_eq (F.cmp_object.ne.bind _) (wpAny_pure (by exact fin)))
  · exact wpAny_tryCatch (wpAny_bind (wpAny_of_eq (F.cmp_object.ne.bind _) (wpAny_pure (by exact fin))))
theorem objNe_entry {Q : Fin → Shared → Prop} (hu : A.units < cLine) (X : K.In s.heap) (I : InstAt s.heap x ox C od) (hs : findIn K (.ref C) "__eq__" = some (some (.ref f))) (hf : isFn K (.ref f) = true)
    (h : wpAny (model prog w) A (call (.ref f) [.ref x, b]) (fun v s' => ∃ r, v = .bool r ∧ Q (.done (.ret (.bool (!r)))) s') E s) : wpAny (model prog w) A (Builtin.«object.__ne__» ⟨[.ref x, b], []⟩) Q E s := by
  unfold Builtin.«object.__ne__»
  refine wpAny_bind (m := slotArgs "__ne__" 1 _) (wpAny_pure ?_)
  show wpAny _ _ (cRoomFor "comparison" [.ref x, b] >>= _) _ _ _
  refine wpAny_bind (wpAny_cRoomFor hu ?_)
  refine wpAny_bind (m := callSpecialIfBound? (.ref x) (Str.ofString "__eq__") [b]) (ifBound_K X I hs hf (wpAny_mono h (fun v s' hv => ?_) fun _ _ y => y))
  obtain ⟨r, rfl, hq⟩ := hv
  show wpAny _ _ (truthy (.bool r) >>= _) _ _ _
  exact wpAny_bind (wpAny_truthy_bool (wpAny_pure hq))
theorem tryNe {Q : Option Value → Shared → Prop} (hu : A.units + 1 < cLine) (X : K.In s.heap) (I : InstAt s.heap x ox C od) (hne : findIn K (.ref C) "__ne__" = some (some (.builtin "object.__ne__"))) (hm : mroIn K C (.type "object") = some true)
    (hs : findIn K (.ref C) "__eq__" = some (some (.ref f))) (hf : isFn K (.ref f) = true)
    (h : wpAny (model prog w) A.in1 (call (.ref f) [.ref x, b]) (fun v s' => ∃ r, v = .bool r ∧ Q (some (.bool (!r))) s') E s) : wpAny (model prog w) A (tryCompare (.ref x) "__ne__" b) Q E s := by
  unfold tryCompare
  refine wpAny_bind (ifBound_objNe X I hne ?_)
  refine wpAny_call (codeAny_call_builtin F.cmp_object.ne.plain F.cmpEntry_ne (check_slot F.cmpKind_ne F.cmpSplit_ne (I.type.andThen (looks_mroIn X hm)) (F.cmpArgs_ne _ _) ?_))
  refine objNe_entry (A := A.in1) hu X I hs hf (wpAny_mono h (fun v s' hv => ?_) fun _ _ e => e)
  obtain ⟨r, rfl, hq⟩ := hv
  exact ⟨r, rfl, wpAny_pure hq⟩
/-- x != b by the own == -/
theorem cmp_ne {Q : Value → Shared → Prop} (hu : A.units + 1 < cLine) (X : K.In s.heap) (I : InstAt s.heap x ox C od) (hb : Looks (model prog w) s.heap (typeOf b) tb) (hn : notFirst K C tb = true)
    (hne : findIn K (.ref C) "__ne__" = some (some (.builtin "object.__ne__"))) (hm : mroIn K C (.type "object") = some true) (hs : findIn K (.ref C) "__eq__" = some (some (.ref f))) (hf : isFn K (.ref f) = true)
    (h : wpAny (model prog w) A.in1 (call (.ref f) [.ref x, b]) (fun v s' => ∃ r, v = .bool r ∧ Q (.bool (!r)) s') E s) : wpAny (model prog w) A (richCompare .NotEq (.ref x) b) Q E s := by
  have one : wpAny (model prog w) A (tryCompare (.ref x) "__ne__" b) (fun r s' => ∃ v, r = some v ∧ Q v s') E s :=
    tryNe hu X I hne hm hs hf (wpAny_mono h (fun v s' hv => by obtain ⟨r, rfl, hq⟩ := hv; exact ⟨r, rfl, _, rfl, hq⟩) fun _ _ e => e)
  unfold richCompare
  simp only [oneThing_ref]
  rw [cmpInfo_NotEq]
  dsimp only
  refine wpAny_holding (wpAny_bind (wpAny_cRoomFor (Nat.lt_of_succ_lt hu) ?_))
  refine wpAny_bind (I.type.here (wpAny_bind (hb.here ?_)))
  split
  · rename_i q
    have e : subIn K tb (.ref C) = some false := by
      rcases Bool.or_eq_true_iff.mp hn with e | e
      · rw [beq_iff_eq.mp e] at q; simp at q
      · exact beq_iff_eq.mp e
    refine wpAny_bind ((looks_subIn X e).here ?_)
    simp only [Bool.false_eq_true, if_false]
    refine wpAny_bind (wpAny_mono one (fun r s' z => ?_) fun _ _ e => e)
    obtain ⟨v, rfl, hq⟩ := z
    exact wpAny_pure hq
  · refine wpAny_bind (wpAny_pure ?_)
    simp only [Bool.false_eq_true, if_false]
    refine wpAny_bind (wpAny_mono one (fun r s' z => ?_) fun _ _ e => e)
    obtain ⟨v, rfl, hq⟩ := z
    exact wpAny_pure hq
/-- an int on the left: it declines, the reflected method of the right is called -/
theorem cmp_R {op : CmpOp} {t : Tok} {i : Int} {Q : Value → Shared → Prop} (hu : A.units < cLine) (X : K.In s.heap) (I : InstAt s.heap x ox C od) (hsub : subIn K (.ref C) (.type "int") = some false)
    (hone : oneThing? op (.int i t) (.ref x) = none)
    (dec : wpAny (model prog w) A (tryCompare (.int i t) (cmpInfo op).2.1 (.ref x)) (fun r s' => r = none ∧ s' = s) E s)
    (h : wpAny (model prog w) A (tryCompare (.ref x) (cmpInfo op).2.2 (.int i t)) (fun r s' => ∃ v, r = some v ∧ Q v s') E s) : wpAny (model prog w) A (richCompare op (.int i t) (.ref x)) Q E s := by
  unfold richCompare
  rw [hone]
  dsimp only
  refine wpAny_holding (wpAny_bind (wpAny_cRoomFor hu ?_))
  have L1 : Looks (model prog w) s.heap (typeOf (.int i t)) (.type "int") := Looks.of_pure rfl
  refine wpAny_bind (L1.here (wpAny_bind (I.type.here ?_)))
  split
  · refine wpAny_bind ((looks_subIn X hsub).here ?_)
    simp only [Bool.false_eq_true, if_false]
    refine wpAny_bind (wpAny_mono dec (fun r s' z => ?_) fun _ _ e => e)
    obtain ⟨rfl, rfl⟩ := z
    simp only [Bool.not_false, if_true]
    refine wpAny_bind (wpAny_mono h (fun r s' z => ?_) fun _ _ e => e)
    obtain ⟨v, rfl, hq⟩ := z
    exact wpAny_pure hq
  · rename_i q
    exact absurd (by simp) q
end
end Ps

/-! The same over the layer: values of any known type on the right. -/
namespace Ps
open PySem PySem.Spec PyProof.Rows PySem.W L2

section
variable {prog : Program} {w : World} {A : Around} {E : Value → Shared → Prop} {s : Shared} {K : Frag} {x C f : Addr} {ox : Obj} {od : Option Obj} {b : Value} {nm T : String}
/-- a built-in class, as a number's operator looks at it -/
structure Bt (T nm : String) : Prop where
  l : ∃ o, fastLookup T (PySem.dunder nm) = some o
  r : ∃ o, fastLookup T (dunderR nm) = some o
  no : (fastBuiltinMro T).map (fun l => l.all fun v => match v with | .type _ => true | _ => false) = some true
theorem noRef {T : String} {C : Addr} (h : (fastBuiltinMro T).map (fun l => l.all fun v => match v with | .type _ => true | _ => false) = some true) : subIn K (.type T) (.ref C) = some false := by
  show (fastBuiltinMro T).map (·.contains (.ref C)) = some false
  cases e : fastBuiltinMro T with
  | none => rw [e] at h; cases h
  | some l =>
    rw [e] at h
    have h2 : (l.all fun v => match v with | .type _ => true | _ => false) = true := Option.some.inj h
    show some (l.contains (.ref C)) = some false
    congr 1
    rw [Bool.eq_false_iff]
    intro z
    have z2 := List.all_eq_true.mp h2 _ (List.contains_iff_mem.mp z)
    cases z2
theorem bin1_T {Q : Value → Shared → Prop} (X : K.In s.heap) (I : InstAt s.heap x ox C od) (hb : Looks (model prog w) s.heap (typeOf b) (.type T)) (hc : selfFirst K C = true)
    (hs : findIn K (.ref C) (PySem.dunder nm) = some (some (.ref f))) (hf : isFn K (.ref f) = true) {rc : Option Value} (hr : findIn K (.ref C) (dunderR nm) = some rc) (hp : rc = none ∨ ∃ g : Addr, rc = some (.ref g)) (B : Bt T nm)
    (h : wpAny (model prog w) A (call (.ref f) [.ref x, b]) (PySem.W.CmpBack Q) E s) : wpAny (model prog w) A (binaryOp1 nm (.ref x) b) (fun r s' => ∃ v, r = some v ∧ Q v s') E s := by
  obtain ⟨cd, rest, hcd, hm⟩ := ksp_first hc
  have one := ksp_try X I hs hf h
  obtain ⟨⟨fo, h1⟩, ⟨ro, h2⟩, hno⟩ := B
  obtain ⟨hh, g, d, tt, os⟩ := s
  have L1 : Looks (model prog w) hh (typeOf (.ref x)) (.ref C) := I.type
  have L3 : Looks (model prog w) hh (fillsNumberSlot (.ref C) nm) true := fills_K X hcd hm hs
  have L4 : Looks (model prog w) hh (fillsNumberSlot (.type T) nm) ((fo.isSome && !isSeqSlot fo) || (ro.isSome && !isSeqSlot ro)) := ksp_fillsT X h1 h2
  have L5 : Looks (model prog w) hh (isSubtype (.type T) (.ref C)) false := looks_subIn X (noRef hno)
  have L6 : Looks (model prog w) hh (numberSlotInPython (.ref C) nm) true := ksp_inPy X hs hr hp
  have L7 : Looks (model prog w) hh (numberSlotInPython (.type T) nm) false := Looks.of_pure rfl
  have L8 : Looks (model prog w) hh (typeLookup (.type T) (dunderR nm)) ro := looks_findIn X h2
  generalize ((fo.isSome && !isSeqSlot fo) || (ro.isSome && !isSeqSlot ro)) = right at L4
  have hne : (Value.ref C == Value.type T) = false := Bool.eq_false_iff.mpr fun q => by cases beq_iff_eq.mp q
  unfold binaryOp1
  refine wpAny_bind (L1.at (wpAny_bind (hb.at (wpAny_bind (L3.at ?_)))))
  simp only [hne, Bool.false_eq_true, if_false]
  cases right
  · ksp_lk
    refine wpAny_mono one (fun r s' hr' => ?_) fun _ _ e => e
    obtain ⟨v, rfl, hq⟩ := hr'
    ksp_lk
    exact ⟨_, rfl, hq⟩
  · ksp_lk
    refine wpAny_mono one (fun r s' hr' => ?_) fun _ _ e => e
    obtain ⟨v, rfl, hq⟩ := hr'
    ksp_lk
    exact ⟨_, rfl, hq⟩
theorem bin1_K {Q : Value → Shared → Prop} (X : K.In s.heap) (I : InstAt s.heap x ox C od) (hb : Looks (model prog w) s.heap (typeOf b) (.ref C)) (hc : selfFirst K C = true)
    (hs : findIn K (.ref C) (PySem.dunder nm) = some (some (.ref f))) (hf : isFn K (.ref f) = true)
    (h : wpAny (model prog w) A (call (.ref f) [.ref x, b]) (PySem.W.CmpBack Q) E s) : wpAny (model prog w) A (binaryOp1 nm (.ref x) b) (fun r s' => ∃ v, r = some v ∧ Q v s') E s := by
  obtain ⟨cd, rest, hcd, hm⟩ := ksp_first hc
  have one := ksp_try X I hs hf h
  unfold binaryOp1
  refine wpAny_bind (I.type.here (wpAny_bind (hb.here (wpAny_bind ((fills_K X hcd hm hs).here ?_)))))
  simp only [beq_self_eq_true, if_true]
  refine wpAny_bind (wpAny_pure ?_)
  simp only [Bool.and_false, Bool.false_eq_true, if_false, Bool.false_and]
  refine wpAny_bind (wpAny_pure ?_)
  simp only [Bool.false_eq_true, if_false]
  refine wpAny_bind (m := tryMethod (.ref x) _ b) (wpAny_mono one (fun r s' hr' => ?_) fun _ _ e => e)
  obtain ⟨v, rfl, hq⟩ := hr'
  exact wpAny_pure ⟨_, rfl, hq⟩
theorem bin_of1 {op : Operator} {a : Value} {Q : Value → Shared → Prop} (h : wpAny (model prog w) A (binaryOp1 op.info.2 a b) (fun r s' => ∃ v, r = some v ∧ Q v s') E s) : wpAny (model prog w) A (binaryOp op a b) Q E s := by
  rcases hi : op.info with ⟨sym, nm'⟩
  rw [hi] at h
  simp only [binaryOp, hi]
  refine wpAny_holding (wpAny_bind (wpAny_mono h (fun r s' z => ?_) fun _ _ e => e))
  obtain ⟨v, rfl, hq⟩ := z
  exact wpAny_pure hq
/-- no in-place method along the class and object -/
structure NoI (K : Frag) (C : Addr) (nm : String) : Prop where
  cd : ∃ cd, clsIn K C = some cd ∧ cd.mro = [.ref C, .type "object"]
  l : findIn K (.ref C) (dunderI nm) = some none
  o : fastLookup "object" (dunderI nm) = some none
theorem fillsI_no {M : Model} {h : Heap} {add : Bool} (X : K.In h) (N : NoI K C nm) : Looks M h (fillsInplaceSlot (.ref C) nm add) false := by
  obtain ⟨⟨cd, hc, hm⟩, hl, ho⟩ := N
  intro A Q E s k q
  have Lm : Looks M h (mroOf (.ref C)) cd.mro := (looks_clsIn X hc).andThen (f := fun cd => pure cd.mro) .now
  have Lm' := Lm.keeps k
  obtain ⟨hh, g, d, tt, os⟩ := s
  have X' : K.In hh := X.keeps k
  have L1 : Looks M hh (typeLookup (.ref C) (dunderI nm)) none := looks_findIn X' hl
  have L2 : Looks M hh (typeLookup (.type "object") (dunderI nm)) none := looks_findIn X' (t := .type "object") ho
  unfold fillsInplaceSlot
  refine wpAny_bind (Lm'.at ?_)
  rw [hm, List.anyM_cons]
  refine wpAny_bind ?_
  repeat lk
  first
    | exact q
    | (rw [List.anyM_cons]; refine wpAny_bind ?_; repeat lk; first | exact q | (rw [List.anyM_nil]; exact wpAny_pure q))
theorem ip_of1 {op : Operator} {Q : Value → Shared → Prop} (X : K.In s.heap) (I : InstAt s.heap x ox C od) (N : NoI K C op.info.2) (h : wpAny (model prog w) A (binaryOp1 op.info.2 (.ref x) b) (fun r s' => ∃ v, r = some v ∧ Q v s') E s) : wpAny (model prog w) A (inplaceOp op (.ref x) b) Q E s := by
  unfold inplaceOp
  refine wpAny_holding ?_
  refine wpAny_bind (I.type.here (wpAny_bind ((fillsI_no X N).here ?_)))
  simp only [Bool.false_eq_true, if_false]
  refine wpAny_bind (wpAny_mono h (fun r s' z => ?_) fun _ _ e => e)
  obtain ⟨v, rfl, hq⟩ := z
  exact wpAny_pure hq
end
end Ps

/-! Rules: operators and comparisons of own instances with values of any known type. -/
namespace Ps
open PySem PySem.Spec PyProof.Rows PySem.W L2

section
variable {Z : Cz} {X : Cx} {CX : CXT} {k : Nat} {C : Addr} {ps : List Str} {sp : Sp} {E : XK}
/-- a value that stands right of an operator -/
def Sd (K : Frag) (C : Addr) (nm : String) (H : Hp) (y : V) : Prop := ∃ t, TyX K H y t ∧ (t = .ref C ∨ ∃ T, t = .type T ∧ Bt T nm)
def rBin (K : Frag) (C : Addr) (nm : String) (sp : Sp) (E : XK) : R2 := fun x y H Q => InsC C H x ∧ Sd K C nm H y ∧ sp [x, y] H Q E
theorem bin1_any {nm : String} {f : Addr} {fd : FuncData} {rc : Option Value} {pins : List (Addr × Obj)} {s : Shared} {σ : L2.St} {H : Hp} {x y : V} {v u : Value} {Q : VK} (O : OwnOp X.K C f (PySem.dunder nm)) (hrc : findIn X.K (.ref C) (dunderR nm) = some rc) (hp : rc = none ∨ ∃ g : Addr, rc = some (.ref g))
    (G : FnOk X.prog X.w X.K X.mg X.base CX k f fd ps sp) (hr : Room k X.A) (hb : Binds X.K fd ps []) (hx : Passes CX X E) (I : L2.Inv X pins σ H s) (rx : RelV x v) (ry : RelV y u) (h : rBin X.K C nm sp E x y H Q) :
    ∃ a ox od, v = .ref a ∧ InstAt s.heap a ox C od ∧ wpAny (model X.prog X.w) X.A (binaryOp1 nm v u) (fun r s' => ∃ z, r = some z ∧ EP X pins σ Q z s') X.xe s := by
  obtain ⟨⟨a, dx, fs, rfl, ha⟩, ⟨t, ty, ht⟩, h⟩ := h
  cases (show v = Value.ref a from rx)
  obtain ⟨mA, J0, _⟩ := ins_get I.hok ha
  obtain ⟨od, J, _⟩ := J0.look
  obtain ⟨P, Zk, p, _⟩ := kit_of I ry ty
  have hl := Zk.ty (model X.prog X.w) s.heap I.kIn p
  have hcall := wpAny_mono (run_fn (us := [.ref a, u]) (vs := [.ref a, y]) (dvs := []) G hr hb .nil hx I (.cons rfl (.cons ry .nil)) h) (fun _ _ z => cmpBack z) fun _ _ z => z
  rcases ht with rfl | ⟨T, rfl, B⟩
  · exact ⟨a, _, _, rfl, J, bin1_K I.kIn J hl O.sf O.fn O.isf hcall⟩
  · exact ⟨a, _, _, rfl, J, bin1_T I.kIn J hl O.sf O.fn O.isf hrc hp B hcall⟩
/-- what is known of the reflected method of a class -/
structure Rfl (K : Frag) (C : Addr) (nm : String) : Prop where
  r : ∃ rc, findIn K (.ref C) (dunderR nm) = some rc ∧ (rc = none ∨ ∃ g : Addr, rc = some (.ref g))
theorem op_bin {op : Operator} (c : CalS Z CX k C (PySem.dunder op.info.2) ps sp) (N : Rfl Z.K C op.info.2) (hr : Room k X.A) (hx : Passes CX X E) (z : InZ Z X := by exact ⟨rfl, rfl, rfl, rfl, rfl⟩) : OpR X (binaryOp op) (rBin Z.K C op.info.2 sp E) := by
  obtain ⟨f, fd, G, h1, h2⟩ := c
  obtain ⟨rc, hrc, hp⟩ := N.r
  have z' := z
  obtain ⟨e1, e2, e3, e4, e5⟩ := z
  intro pins s σ H x y v u Q I rx ry h
  obtain ⟨a, ox, od, rfl, J, w1⟩ := bin1_any (X := X) (by rw [e3]; exact h1) (by rw [e3]; exact hrc) hp (z'.ok G) hr (by rw [e3]; exact h2) hx I rx ry (by rw [e3]; exact h)
  exact bin_of1 w1
theorem ip_bin {op : Operator} (c : CalS Z CX k C (PySem.dunder op.info.2) ps sp) (N : Rfl Z.K C op.info.2) (O : NoI Z.K C op.info.2) (hr : Room k X.A) (hx : Passes CX X E) (z : InZ Z X := by exact ⟨rfl, rfl, rfl, rfl, rfl⟩) : PIp X op (rBin Z.K C op.info.2 sp E) := by
  obtain ⟨f, fd, G, h1, h2⟩ := c
  obtain ⟨rc, hrc, hp⟩ := N.r
  have z' := z
  obtain ⟨e1, e2, e3, e4, e5⟩ := z
  intro pins s σ H x y v u Q I rx ry h
  obtain ⟨a, ox, od, rfl, J, w1⟩ := bin1_any (X := X) (by rw [e3]; exact h1) (by rw [e3]; exact hrc) hp (z'.ok G) hr (by rw [e3]; exact h2) hx I rx ry (by rw [e3]; exact h)
  exact ip_of1 I.kIn J (by rw [e3]; exact O) w1
/-! ### comparisons -/
def Nf (K : Frag) (C : Addr) (H : Hp) (y : V) : Prop := ∃ t, TyX K H y t ∧ notFirst K C t = true
def rCmp (K : Frag) (C : Addr) (sp : Sp) (E : XK) : R2 := fun x y H Q => InsC C H x ∧ Nf K C H y ∧ sp [x, y] H Q E
theorem op_cmp {op : CmpOp} (c : CalS Z CX k C (cmpInfo op).2.1 ps sp) (hr : Room k X.A) (hx : Passes CX X E) (z : InZ Z X := by exact ⟨rfl, rfl, rfl, rfl, rfl⟩) (hop : ∀ a b, compareOp op a b = richCompare op a b := by intro _ _; rfl) : OpR X (compareOp op) (rCmp Z.K C sp E) := by
  obtain ⟨f, fd, G, h1, h2⟩ := c
  have z' := z
  obtain ⟨e1, e2, e3, e4, e5⟩ := z
  intro pins s σ H x y v u Q I rx ry h
  obtain ⟨⟨a, dx, fs, rfl, ha⟩, ⟨t, ty, ht⟩, h⟩ := h
  cases (show v = Value.ref a from rx)
  rw [← e3] at ty ht h1
  obtain ⟨mA, J0, _⟩ := ins_get I.hok ha
  obtain ⟨od, J, _⟩ := J0.look
  obtain ⟨P, Zk, p, _⟩ := kit_of I ry ty
  obtain ⟨m, hF⟩ := I.fr
  rw [hop]
  refine cmp_K hr.units0 hF I.ok.mod.kin J (Zk.ty (model X.prog X.w) s.heap I.kIn p) ht h1.fn h1.isf ?_
  exact wpAny_mono (run_fn (us := [.ref a, u]) (vs := [.ref a, y]) (dvs := []) (z'.ok G) hr (by rw [e3]; exact h2) .nil hx I (.cons rfl (.cons ry .nil)) h) (fun _ _ z => cmpBack z) fun _ _ z => z
/-- what is known of != -/
structure NeT (K : Frag) (C : Addr) : Prop where
  ne : findIn K (.ref C) "__ne__" = some (some (.builtin "object.__ne__"))
  m : mroIn K C (.type "object") = some true
def rNe (K : Frag) (C : Addr) (sp : Sp) (E : XK) : R2 := fun x y H Q => InsC C H x ∧ Nf K C H y ∧ sp [x, y] H (fun v H' => ∃ b, v = .bl b ∧ Q (.bl (!b)) H') E
theorem ne_back {pins : List (Addr × Obj)} {σ : L2.St} {Q : VK} {v : Value} {s : Shared} (h : EP X pins σ (fun v H' => ∃ b, v = .bl b ∧ Q (.bl (!b)) H') v s) : ∃ r, v = .bool r ∧ EP X pins σ Q (.bool (!r)) s := by
  obtain ⟨v', H', I, r, b, rfl, q⟩ := h
  cases (show v = Value.bool b from r)
  exact ⟨b, rfl, .bl (!b), H', I, rfl, q⟩
theorem op_ne_ (c : CalS Z CX k C "__eq__" ps sp) (N : NeT Z.K C) (hr : Room (k + 1) X.A) (hx : Passes CX X E) (z : InZ Z X := by exact ⟨rfl, rfl, rfl, rfl, rfl⟩) : OpR X (compareOp .NotEq) (rNe Z.K C sp E) := by
  obtain ⟨f, fd, G, h1, h2⟩ := c
  have z' := z
  obtain ⟨e1, e2, e3, e4, e5⟩ := z
  intro pins s σ H x y v u Q I rx ry h
  obtain ⟨⟨a, dx, fs, rfl, ha⟩, ⟨t, ty, ht⟩, h⟩ := h
  cases (show v = Value.ref a from rx)
  rw [← e3] at ty ht h1 N
  obtain ⟨mA, J0, _⟩ := ins_get I.hok ha
  obtain ⟨od, J, _⟩ := J0.look
  obtain ⟨P, Zk, p, _⟩ := kit_of I ry ty
  show wpAny _ _ (richCompare .NotEq (.ref a) u) _ _ _
  refine cmp_ne (hu_of hr) I.kIn J (Zk.ty (model X.prog X.w) s.heap I.kIn p) ht N.ne N.m h1.fn h1.isf ?_
  exact wpAny_mono (run_fn1 (us := [.ref a, u]) (vs := [.ref a, y]) (z'.ok G) hr (by rw [e3]; exact h2) hx I (.cons rfl (.cons ry .nil)) h) (fun _ _ z => ne_back z) fun _ _ z => z
/-! an int on the left -/
def rCmpI (C : Addr) (sp : Sp) (E : XK) : R2 := fun x y H Q => (∃ i, x = .int i) ∧ InsC C H y ∧ sp [y, x] H Q E
theorem one_int {op : CmpOp} {i : Int} {t : Tok} {x : Addr} : oneThing? op (.int i t) (.ref x) = none := by cases op <;> rfl
theorem op_cmpI {op : CmpOp} {id : String} (c : CalS Z CX k C (cmpInfo op).2.2 ps sp) (hsub : subIn Z.K (.ref C) (.type "int") = some false) (sl : Slot "int" (cmpInfo op).2.1 id)
    (hd : ∀ {s : Shared} {x C dx : Addr} {t : Tok} {i : Int} {Q : Value → Shared → Prop}, s.heap.get? x = some (instObj C dx) → Q .notImplemented s → wpAny (model X.prog X.w) X.A (call (.builtin id) [.int i t, .ref x]) Q X.xe s)
    (hr : Room k X.A) (hx : Passes CX X E) (z : InZ Z X := by exact ⟨rfl, rfl, rfl, rfl, rfl⟩) (hop : ∀ a b, compareOp op a b = richCompare op a b := by intro _ _; rfl) : OpR X (compareOp op) (rCmpI C sp E) := by
  obtain ⟨f, fd, G, h1, h2⟩ := c
  have z' := z
  obtain ⟨e1, e2, e3, e4, e5⟩ := z
  intro pins s σ H x y v u Q I rx ry h
  obtain ⟨⟨i, rfl⟩, ⟨a, dx, fs, rfl, ha⟩, h⟩ := h
  cases (show u = Value.ref a from ry)
  obtain ⟨t, e⟩ := (show ∃ t, v = Value.int i t from rx)
  cases e
  rw [← e3] at hsub h1
  obtain ⟨mA, J0, _⟩ := ins_get I.hok ha
  obtain ⟨_, _, _, hget, _⟩ := (show ObjOk X.prog X.w H s.heap a (.ins C dx fs) from I.hok a _ ha)
  obtain ⟨od, J, _⟩ := J0.look
  rw [hop]
  refine cmp_R hr.units0 I.kIn J hsub one_int (wpAny_tryCompare_declines (typeIs_int _ i t) sl (hd hget ⟨rfl, rfl, rfl⟩)) ?_
  unfold tryCompare
  refine wpAny_bind (ifBound_K I.kIn J h1.fn h1.isf (wpAny_mono (run_fn (us := [.ref a, .int i t]) (vs := [.ref a, .int i]) (dvs := []) (z'.ok G) hr (by rw [e3]; exact h2) .nil hx I (.cons rfl (.cons ⟨t, rfl⟩ .nil)) h) (fun v s' z => ?_) fun _ _ z => z))
  have z2 := cmpBack z
  cases v <;> first | exact False.elim z2 | exact wpAny_pure ⟨_, rfl, z⟩
def rNeI (C : Addr) (sp : Sp) (E : XK) : R2 := fun x y H Q => (∃ i, x = .int i) ∧ InsC C H y ∧ sp [y, x] H (fun v H' => ∃ b, v = .bl b ∧ Q (.bl (!b)) H') E
theorem op_neI (c : CalS Z CX k C "__eq__" ps sp) (N : NeT Z.K C) (hsub : subIn Z.K (.ref C) (.type "int") = some false) (hr : Room (k + 1) X.A) (hx : Passes CX X E) (z : InZ Z X := by exact ⟨rfl, rfl, rfl, rfl, rfl⟩) : OpR X (compareOp .NotEq) (rNeI C sp E) := by
  obtain ⟨f, fd, G, h1, h2⟩ := c
  have z' := z
  obtain ⟨e1, e2, e3, e4, e5⟩ := z
  intro pins s σ H x y v u Q I rx ry h
  obtain ⟨⟨i, rfl⟩, ⟨a, dx, fs, rfl, ha⟩, h⟩ := h
  cases (show u = Value.ref a from ry)
  obtain ⟨t, e⟩ := (show ∃ t, v = Value.int i t from rx)
  cases e
  rw [← e3] at hsub h1 N
  obtain ⟨mA, J0, _⟩ := ins_get I.hok ha
  obtain ⟨_, _, _, hget, _⟩ := (show ObjOk X.prog X.w H s.heap a (.ins C dx fs) from I.hok a _ ha)
  obtain ⟨od, J, _⟩ := J0.look
  show wpAny _ _ (richCompare .NotEq (.int i t) (.ref a)) _ _ _
  refine cmp_R hr.units0 I.kIn J hsub one_int (wpAny_tryCompare_declines (typeIs_int _ i t) F.slot_int_ne (dec_ne hget ⟨rfl, rfl, rfl⟩)) ?_
  show wpAny _ _ (tryCompare (.ref a) "__ne__" (.int i t)) _ _ _
  refine tryNe (hu_of hr) I.kIn J N.ne N.m h1.fn h1.isf ?_
  refine wpAny_mono (run_fn1 (us := [.ref a, .int i t]) (vs := [.ref a, .int i]) (z'.ok G) hr (by rw [e3]; exact h2) hx I (.cons rfl (.cons ⟨t, rfl⟩ .nil)) h) (fun _ _ z => ?_) fun _ _ z => z
  obtain ⟨r, rfl, q⟩ := ne_back z
  exact ⟨r, rfl, _, rfl, q⟩
end
/-! ### facts of built-in classes -/
theorem nf_ty {K : Frag} {C : Addr} {T : String} (h : (fastBuiltinMro T).map (fun l => l.all fun v => match v with | .type _ => true | _ => false) = some true) : notFirst K C (.type T) = true := by
  unfold notFirst
  rw [noRef h]
  simp
theorem nf_own {K : Frag} {C : Addr} : notFirst K C (.ref C) = true := by simp [notFirst]
theorem nf_int {K : Frag} {C : Addr} : notFirst K C (.type "int") = true := nf_ty (by decide +kernel)
theorem nf_bool {K : Frag} {C : Addr} : notFirst K C (.type "bool") = true := nf_ty (by decide +kernel)
theorem nf_str {K : Frag} {C : Addr} : notFirst K C (.type "str") = true := nf_ty (by decide +kernel)
theorem nf_non {K : Frag} {C : Addr} : notFirst K C (.type "NoneType") = true := nf_ty (by decide +kernel)
theorem nf_flt {K : Frag} {C : Addr} : notFirst K C (.type "float") = true := nf_ty (by decide +kernel)
theorem nf_list {K : Frag} {C : Addr} : notFirst K C (.type "list") = true := nf_ty (by decide +kernel)
theorem nf_tuple {K : Frag} {C : Addr} : notFirst K C (.type "tuple") = true := nf_ty (by decide +kernel)
theorem nf_dict {K : Frag} {C : Addr} : notFirst K C (.type "dict") = true := nf_ty (by decide +kernel)
end Ps

/-! Defs that raise; their calls inside a try; defs called while an error is handled. -/
namespace Ps
open PySem PySem.Spec PyProof.Rows L2

/-- what leaves a def that raises: errors whose context is None -/
abbrev CXN (Z : Cz) : CXT := L2N.CX Z.P Z.w
section
variable {P : Program} {w : World} {K : PySem.W.Frag} {mg : Str → Option Value} {base : Heap}
theorem Fun.okN {x qual : Str} {st : Stmt} {f : Addr} {fd : FuncData} {N ps : List Str} {k : Nat} {sp : Sp} {CX : CXT} (F : Fun K x qual st f fd) (S : FnScope N ps (defScope st)) (len : ∀ vs H Q E, sp vs H Q E → vs.length = ps.length)
    (hbody : ∀ (cdv : Value) (A : Around) (outer : List Env) (s : Shared) (H : Hp) (vs : List V) (Q : VK) (E : XK), Room k (A.deeper (envOfC qual (defScope st) s.heap.objs.size f cdv)) → sp vs H Q E →
      ∃ t, PSs (cxOf CX P w K mg base N qual (defScope st) f cdv A outer s H E) (defBody st) t ∧ t { nx := fun _ H' => Q .non H', rt := Q } (start N vs) H) : FnOk P w K mg base CX (k + 1) f fd ps sp := by
  obtain ⟨oc, od, kV, doc, pm, an, cdv, ct, osl, rfl, lk, hcd⟩ := F.ex
  exact fn_of lk hcd S len fun A outer s H vs Q E hr hsp => hbody cdv A outer s H vs Q E hr hsp
theorem Fun.okH {x qual : Str} {st : Stmt} {f : Addr} {fd : FuncData} {N ps : List Str} {k : Nat} {sp : Sp} {CX : CXT} (F : Fun K x qual st f fd) (S : FnScope N ps (defScope st)) (len : ∀ vs H Q E, sp vs H Q E → vs.length = ps.length)
    (hbody : ∀ (cdv : Value) (A : Around) (outer : List Env) (s : Shared) (H : Hp) (vs : List V) (Q : VK) (E : XK) (p : Addr × Obj), L2H.Hot1 A p → L2H.RoomH k (A.deeper (envOfC qual (defScope st) s.heap.objs.size f cdv)) → sp vs H Q E →
      ∃ t, PSs (L2H.cxH CX P w K mg base N qual (defScope st) f cdv A outer s H E p) (defBody st) t ∧ t { nx := fun _ H' => Q .non H', rt := Q } (start N vs) H) : L2H.FnH P w K mg base CX (k + 1) f fd ps sp := by
  obtain ⟨oc, od, kV, doc, pm, an, cdv, ct, osl, rfl, lk, hcd⟩ := F.ex
  exact L2H.fn_ofH lk hcd S len fun A outer s H vs Q E p hot hr hsp => hbody cdv A outer s H vs Q E p hot hr hsp
/-- a def that raises, where it raises nothing -/
theorem okCalm {k : Nat} {f : Addr} {fd : FuncData} {ps : List Str} {sp sp' : Sp} (F : FnOk P w K mg base (L2N.CX P w) k f fd ps sp) (h : ∀ vs H Q E, sp' vs H Q E → sp vs H Q E0) : FnOk P w K mg base CX0 k f fd ps sp' := by
  refine ⟨fun vs H Q E hs => F.len vs H Q E0 (h vs H Q E hs), fun A outer s H args us vs Q E hr e0 hb r hs => ?_⟩
  refine codeAny_mono (F.run A outer s H args us vs Q E0 hr e0 hb r (h _ _ _ _ hs)) fun r s' hq => ?_
  cases r with
  | error e =>
    obtain ⟨_, _, _, _, _, _, _, _, _, _, _, _, z⟩ := hq
    exact z.elim
  | ok fl => cases fl <;> exact hq
end
/-- all errors of the def go out as they are -/
theorem passN {X : Cx} {E : XK} (tk : L2N.Takes X (fun cls d _ H => E cls d H)) : Passes (L2N.CX X.prog X.w) X E := L2N.passes_call tk fun _ _ _ _ h => h
section
variable {Z : Cz} {X : Cx} {CX : CXT} {k : Nat} {C : Addr} {ps : List Str} {sp : Sp} {dvs : List V} {E : L2.St → XK} {x m : Str} {p pos apos : Pos} {e o : Expr} {es : List Expr} {ta : TE} {t : TA}
theorem pe_calS (c : Cal Z CX k x ps dvs sp) (hr : Room k X.A) (hg : Gl X x) (hx : ∀ σ, PassesAt CX X σ (E σ)) (ha : PA X (e :: es) t) (z : InZ Z X := by exact ⟨rfl, rfl, rfl, rfl, rfl⟩)
    (hdb : (x == ("__debug__" : Str)) = false := by decide) (he : starEach (e :: es) X.env = (false, eval e X.env) :: starEach es X.env := by rfl) (hpl : (backTo pos (starEach es X.env)).any (·.1) = false := by rfl) :
    PE X (.Call (.Name x p) (e :: es) [] pos) (tCallSD sp dvs E t) := by
  obtain ⟨f, fd, ds, G, h1, h2, h3, h4⟩ := c
  exact pe_callSD (z.ok G) hr hg (by rw [z.mg]; exact h1) (by rw [z.K]; exact h2) (by rw [z.K]; exact h3) h4 hx ha hdb he hpl
def tMakeS (C : Addr) (sp : Sp) (dvs : List V) (E : L2.St → XK) (t : TA) : TE := fun σ H Q => t σ H fun vs H1 => ∀ x dx, H1 x = none → H1 dx = none → dx ≠ x →
  sp (.ref x :: (vs ++ dvs)) (upd (upd H1 dx (.own x)) x (.ins C dx [])) (fun v H2 => v = .non ∧ Q (.ref x) H2) (E σ)
theorem pe_calCS (c : CalC Z CX k C x ps dvs sp) (hr : Room (k + 1) X.A) (hg : Gl X x) (hx : ∀ σ, PassesAt CX X σ (E σ)) (ha : PA X (e :: es) t) (z : InZ Z X := by exact ⟨rfl, rfl, rfl, rfl, rfl⟩)
    (hdb : (x == ("__debug__" : Str)) = false := by decide) (he : starEach (e :: es) X.env = (false, eval e X.env) :: starEach es X.env := by rfl) (hpl : (backTo pos (starEach es X.env)).any (·.1) = false := by rfl) :
    PE X (.Call (.Name x p) (e :: es) [] pos) (tMakeS C sp dvs E t) := by
  obtain ⟨f, fd, ds, G, M, h2, hb, hd⟩ := c
  have F := z.ok G
  rw [← z.K] at M hb
  refine ⟨fun pins s σ H Q I h => ?_⟩
  refine wpAny_Call_Name_kw (ld_glob I hg (by rw [z.mg]; exact h2) ?_ hdb)
  refine PySem.W.callWith_K (h₀ := X.base) I.ok.mod.kin M.kp (thn (ha.run pos pins s σ H _ I h) fun us s1 ⟨vs, H1, I1, r, q⟩ => ⟨I1.kIn, ?_⟩) he hpl
  have q1 := q (s1.heap.objs.size + 1) s1.heap.objs.size (I1.hok.fresh (Nat.le_succ _)) (I1.hok.fresh (Nat.le_refl _)) (Nat.ne_of_lt (Nat.lt_succ_self _))
  have I2 := Inv.made (C := C) I1
  have r2 : Vals (V.ref (s1.heap.objs.size + 1) :: (vs ++ dvs)) (Value.ref (s1.heap.objs.size + 1) :: (us ++ ds)) := .cons rfl (r.append hd)
  have hl : (Value.ref (s1.heap.objs.size + 1) :: us ++ ds).length = ps.length := r2.length.symm.trans (F.len _ _ _ _ q1)
  have run := F.run _ X.stack _ _ ⟨Value.ref (s1.heap.objs.size + 1) :: us, []⟩ (Value.ref (s1.heap.objs.size + 1) :: (us ++ ds)) _ _ (E σ) (hr.make C us []) (I2.env0.make C us []) (hb _ (Value.ref (s1.heap.objs.size + 1) :: us) I2.kIn hl) r2 q1
  refine wpAny_call (make_map (f := f) I1.kIn M.makes M.init (beq_iff_eq.mp M.fn) (codeAny_mono run fun rr s' hq' => ?_))
  cases rr with
  | error e => exact hx σ pins _ _ e s' I2 hq'
  | ok fl =>
    cases fl with
    | ret u =>
      obtain ⟨v, H', I3, rv, ev, q3⟩ := I2.after hq'
      subst ev
      exact ⟨rv, ⟨V.ref (s1.heap.objs.size + 1), H', I3, rfl, q3⟩⟩
    | next => exact False.elim hq'
    | brk => exact False.elim hq'
    | cont => exact False.elim hq'
def tMethS' (C : Addr) (m : Str) (sp : Sp) (dvs : List V) (E : L2.St → XK) (ta : TE) (t : TA) : TE := fun σ H Q => ta σ H fun x H1 => ∃ a dx fs, x = .ref a ∧ H1 a = some (.ins C dx fs) ∧ fs.lookup m = none ∧
  t σ H1 fun vs H2 => sp (x :: (vs ++ dvs)) H2 Q (E σ)
theorem pe_calMS {pl : Sem Bool} (c : CalM Z CX k C m ps dvs sp) (hr : Room k X.A) (hx : ∀ σ, PassesAt CX X σ (E σ)) (he : PE X o ta) (ha : PA X (e :: es) t) (z : InZ Z X := by exact ⟨rfl, rfl, rfl, rfl, rfl⟩)
    (hst : starEach (e :: es) X.env = (false, eval e X.env) :: starEach es X.env := by rfl) (hpl : (backTo pos (starEach es X.env)).any (·.1) = false := by rfl)
    (ht : eval (.Call (.Attribute o m apos) (e :: es) [] pos) X.env = (do
      let ov ← eval o X.env
      standAt apos.atName
      let (f, first) ← holding [ov] (getMethod ov m pl)
      callWith pos f first (backTo pos (starEach (e :: es) X.env)) (backToKw pos (keywordEach [] X.env))) := by rfl) :
    PE X (.Call (.Attribute o m apos) (e :: es) [] pos) (tMethS' C m sp dvs E ta t) := by
  obtain ⟨f, fd, ds, G, hm, cl, hb, hd⟩ := c
  rw [← z.K] at hm cl hb
  refine ⟨fun pins s σ H Q I h => ?_⟩
  refine PySem.W.methodCall_KW (pl := pl) (thn (he.run pins s σ H _ I h) fun u s1 ⟨x, H1, I1, rx, a, dx, fs, ex, ea, l, q⟩ => ?_) ht
  subst ex
  obtain rfl : u = Value.ref a := rx
  refine getmeth_ok I1 ea cl hm l ?_
  refine PySem.W.callWith_K (first := [.ref a]) (h₀ := X.base) I.ok.mod.kin hm.kp (thn (ha.run pos pins s1 σ H1 _ I1 q) fun us s2 ⟨vs, H2, I2, r, q2⟩ => ⟨I2.kIn, ?_⟩) hst hpl
  exact run_fnSD (us := .ref a :: us) (vs := .ref a :: vs) (z.ok G) hr hb hd (hx σ) I2 (.cons rfl r) q2
end
/-! ### while an error is handled -/
/-- a def, called so -/
def CalH (Z : Cz) (k : Nat) (x : Str) (ps : List Str) (sp : Sp) : Prop := ∃ f fd, L2H.FnH Z.P Z.w Z.K Z.mg Z.base CX0 k f fd ps sp ∧ Z.mg x = some (.ref f) ∧ PySem.W.keepIn Z.K (.ref f) = true ∧ Binds Z.K fd ps []
def CalMH (Z : Cz) (k : Nat) (C : Addr) (m : Str) (ps : List Str) (sp : Sp) : Prop := ∃ f fd, L2H.FnH Z.P Z.w Z.K Z.mg Z.base CX0 k f fd ps sp ∧ Meth Z.K C m f ∧ Cls Z.K C ∧ Binds Z.K fd ps []
def CalSH (Z : Cz) (k : Nat) (C : Addr) (m : Str) (ps : List Str) (sp : Sp) : Prop := ∃ f fd, L2H.FnH Z.P Z.w Z.K Z.mg Z.base CX0 k f fd ps sp ∧ OwnOp Z.K C f m ∧ Binds Z.K fd ps []
theorem passAt0 {X : Cx} (σ : L2.St) : PassesAt CX0 X σ E0 := fun _ _ _ _ _ _ h => h.elim
section
variable {Z : Cz} {X : Cx} {k : Nat} {C : Addr} {ps : List Str} {sp : Sp} {x m : Str} {p pos apos : Pos} {e o : Expr} {es : List Expr} {ta : TE} {t : TA}
theorem okHz {f : Addr} {fd : FuncData} (z : InZ Z X) (G : L2H.FnH Z.P Z.w Z.K Z.mg Z.base CX0 k f fd ps sp) : L2H.FnH X.prog X.w X.K X.mg X.base CX0 k f fd ps sp := by
  obtain ⟨h1, h2, h3, h4, h5⟩ := z
  rw [h1, h2, h3, h4, h5]
  exact G
theorem pe_calH (c : CalH Z k x ps sp) (hr : L2H.RoomH k X.A) (hc : L2H.HotC X) (hg : Gl X x) (ha : PA X (e :: es) t) (z : InZ Z X := by exact ⟨rfl, rfl, rfl, rfl, rfl⟩)
    (hdb : (x == ("__debug__" : Str)) = false := by decide) (he : starEach (e :: es) X.env = (false, eval e X.env) :: starEach es X.env := by rfl) (hpl : (backTo pos (starEach es X.env)).any (·.1) = false := by rfl) :
    PE X (.Call (.Name x p) (e :: es) [] pos) (tCallS sp (fun _ => E0) t) := by
  obtain ⟨f, fd, G, h1, h2, h3⟩ := c
  exact L2H.pe_callH (okHz z G) hr hc hg (by rw [z.mg]; exact h1) (by rw [z.K]; exact h2) (by rw [z.K]; exact h3) (fun σ => passAt0 σ) ha hdb he hpl
theorem pe_calMH {pl : Sem Bool} (c : CalMH Z k C m ps sp) (hr : L2H.RoomH k X.A) (hc : L2H.HotC X) (he : PE X o ta) (ha : PA X (e :: es) t) (z : InZ Z X := by exact ⟨rfl, rfl, rfl, rfl, rfl⟩)
    (hst : starEach (e :: es) X.env = (false, eval e X.env) :: starEach es X.env := by rfl) (hpl : (backTo pos (starEach es X.env)).any (·.1) = false := by rfl)
    (ht : eval (.Call (.Attribute o m apos) (e :: es) [] pos) X.env = (do
      let ov ← eval o X.env
      standAt apos.atName
      let (f, first) ← holding [ov] (getMethod ov m pl)
      callWith pos f first (backTo pos (starEach (e :: es) X.env)) (backToKw pos (keywordEach [] X.env))) := by rfl) :
    PE X (.Call (.Attribute o m apos) (e :: es) [] pos) (L2H.tMethH C m sp (fun _ => E0) ta t) := by
  obtain ⟨f, fd, G, h1, h2, h3⟩ := c
  exact L2H.pe_methH (pl := pl) he (by rw [z.K]; exact h2) (by rw [z.K]; exact h1) (okHz z G) hr hc (by rw [z.K]; exact h3) (fun σ => passAt0 σ) ha hst hpl ht
theorem op_cmpH {op : CmpOp} (c : CalSH Z k C (cmpInfo op).2.1 ps sp) (hr : L2H.RoomH k X.A) (hc : L2H.HotC X) (z : InZ Z X := by exact ⟨rfl, rfl, rfl, rfl, rfl⟩) (hop : ∀ a b, compareOp op a b = richCompare op a b := by intro _ _; rfl) : OpR X (compareOp op) (rCmp Z.K C sp E0) := by
  obtain ⟨f, fd, G, h1, h2⟩ := c
  have z' := z
  obtain ⟨e1, e2, e3, e4, e5⟩ := z
  intro pins s σ H x y v u Q I rx ry h
  obtain ⟨⟨a, dx, fs, rfl, ha⟩, ⟨t, ty, ht⟩, h⟩ := h
  cases (show v = Value.ref a from rx)
  rw [← e3] at ty ht h1 h2
  obtain ⟨mA, J0, _⟩ := ins_get I.hok ha
  obtain ⟨od, J, _⟩ := J0.look
  obtain ⟨P, Zk, p, _⟩ := kit_of I ry ty
  obtain ⟨m, hF⟩ := I.fr
  rw [hop]
  refine PySem.W.cmp_K (by have := hr.un; omega) hF I.ok.mod.kin J (Zk.ty (model X.prog X.w) s.heap I.kIn p) ht h1.fn h1.isf ?_
  exact wpAny_mono (L2H.run_fnH (E := fun _ => E0) (us := [.ref a, u]) (vs := [.ref a, y]) (okHz z' G) hr hc h2 (passAt0 σ) I (.cons rfl (.cons ry .nil)) h) (fun _ _ z => cmpBack z) fun _ _ z => z
/-- in a suite -/
theorem hotS {a : Addr} {oe : Obj} {cls : Value} {d : Option Addr} {pn : List (Addr × Obj)} (hz : L2N.Zn cls d oe) (hf : ∃ vs, oe.data = .fields vs) : L2H.HotC (X.suite a ((a, oe) :: pn)) := by
  obtain ⟨vs, hd⟩ := hf
  exact ⟨(a, oe), ⟨rfl, vs, hd, hz.2.2 vs hd⟩, List.mem_cons_self⟩
theorem roomS {a : Addr} {pn : List (Addr × Obj)} (hr : Room k X.A) : L2H.RoomH k (X.suite a pn).A := ⟨hr.dp, hr.un⟩
/-- in a def that was called so -/
theorem hotD {CX : CXT} {P : Program} {w : World} {K : PySem.W.Frag} {mg : Str → Option Value} {base : Heap} {N : List Str} {qual : Str} {scope : Scope} {f : Addr} {cd : Value} {A : Around} {outer : List Env} {s : Shared} {H : Hp} {E : XK} {q : Addr × Obj} (h : L2H.Hot1 A q) :
    L2H.HotC (L2H.cxH CX P w K mg base N qual scope f cd A outer s H E q) := ⟨q, h, List.mem_cons_self⟩
end
end Ps

/-! Defs that are called where no repr is running (Around.guards is the empty list): they may tell the repr of lists, tuples, dicts. -/
namespace Ps
open PySem PySem.Spec PyProof.Rows L2

structure FnG (P : Program) (w : World) (K : PySem.W.Frag) (mg : Str → Option Value) (base : Heap) (CX : CXT) (k : Nat) (f : Addr) (fd : FuncData) (ps : List Str) (sp : Sp) : Prop where
  len : ∀ vs H Q E, sp vs H Q E → vs.length = ps.length
  run : ∀ (A : Around) (outer : List Env) (s : Shared) (H : Hp) (args : Args) (us : List Value) (vs : List V) (Q : VK) (E : XK), Room k A → A.guards = some [] → Env0 P w K mg base A outer s H → BindsTo s fd args (ps.zip us) → Vals vs us → sp vs H Q E →
    codeAny (model P w) A (.call (.ref f) args) (CR CX outer P w H s Q E) s
theorem guards_deeper (A : Around) (env : Env) : (A.deeper env).guards = A.guards := rfl
section
variable {P : Program} {w : World} {K : PySem.W.Frag} {mg : Str → Option Value} {base : Heap}
theorem Fun.okG {x qual : Str} {st : Stmt} {f : Addr} {fd : FuncData} {N ps : List Str} {k : Nat} {sp : Sp} {CX : CXT} (F : Fun K x qual st f fd) (S : FnScope N ps (defScope st)) (len : ∀ vs H Q E, sp vs H Q E → vs.length = ps.length)
    (hbody : ∀ (cdv : Value) (A : Around) (outer : List Env) (s : Shared) (H : Hp) (vs : List V) (Q : VK) (E : XK), Room k (A.deeper (envOfC qual (defScope st) s.heap.objs.size f cdv)) → A.guards = some [] → sp vs H Q E →
      ∃ t, PSs (cxOf CX P w K mg base N qual (defScope st) f cdv A outer s H E) (defBody st) t ∧ t { nx := fun _ H' => Q .non H', rt := Q } (start N vs) H) : FnG P w K mg base CX (k + 1) f fd ps sp := by
  obtain ⟨oc, od, kV, doc, pm, an, cdv, ct, osl, rfl, lk, hcd⟩ := F.ex
  refine ⟨len, fun A outer s H args us vs Q E hr hg e0 hb r hsp => ?_⟩
  have KX : K.In s.heap := e0.mod.kin.keeps fun b o e => (e0.bs b o e).1
  have hkind : ∀ y ∈ ps.zip us, (defScope st).names.lookup y.1 = some .local ∨ ((defScope st).names.lookup y.1 = some .cell ∧ ((cellsFrom (s.heap.objs.size + 1) (defScope st).names []).lookup y.1).isSome = true) := fun y hy =>
    (S.par y.1 (List.of_mem_zip (show (y.1, y.2) ∈ ps.zip us from hy)).1).imp id fun q => ⟨q, PySem.W.cellsFrom_some _ _ _ (.inl q)⟩
  obtain ⟨t, ht, hq⟩ := hbody cdv A outer s H vs Q E (hr.deeper _) hg hsp
  refine codeAny_call_function hr.depth (KX _ _ lk) rfl S.co S.gen rfl (PySem.W.codeRec_of KX hcd) (hb _ _ _ _ (wpAny_newFunctionEnv_cells S.kind hkind fun env he s1 x => ?_))
  subst he
  have lim : s.heap.NoLimit := e0.mod.nolimit.keeps fun b o e => (e0.bs b o e).1
  refine ⟨lim.keeps x.toInCall.keep, codeAny_func ?_⟩
  have I := inv_start (CX := CX) (E := E) S hr.hd e0 (len _ _ _ _ hsp) r x
  refine wpAny_mono (ht.run [] s1 _ H _ I hq) (fun fl s' hs => ?_) fun e s' hs => hs
  cases fl with
  | ret u => obtain ⟨v, σ', H', J, rv, q⟩ := hs; exact ⟨v, H', J.os, J.bare, J.base, J.hok, rv, q⟩
  | next => obtain ⟨σ', H', J, q⟩ := hs; exact ⟨V.non, H', J.os, J.bare, J.base, J.hok, rfl, q⟩
  | brk => obtain ⟨_, _, _, q⟩ := hs; exact False.elim q
  | cont => obtain ⟨_, _, _, q⟩ := hs; exact False.elim q
theorem FnOk.toG {CX : CXT} {k : Nat} {f : Addr} {fd : FuncData} {ps : List Str} {sp : Sp} (F : FnOk P w K mg base CX k f fd ps sp) : FnG P w K mg base CX k f fd ps sp :=
  ⟨F.len, fun A outer s H args us vs Q E hr _ e0 hb r h => F.run A outer s H args us vs Q E hr e0 hb r h⟩
end
/-- such a def -/
def CalG (Z : Cz) (CX : CXT) (k : Nat) (x : Str) (ps : List Str) (sp : Sp) : Prop := ∃ f fd, FnG Z.P Z.w Z.K Z.mg Z.base CX k f fd ps sp ∧ Z.mg x = some (.ref f) ∧ PySem.W.keepIn Z.K (.ref f) = true ∧ Binds Z.K fd ps []
section
variable {Z : Cz} {X : Cx} {CX : CXT} {k : Nat} {ps : List Str} {sp : Sp} {x : Str} {p pos : Pos} {e : Expr} {es : List Expr} {t : TA} {E : XK}
theorem pe_calG (c : CalG Z CX k x ps sp) (hr : Room k X.A) (hgd : X.A.guards = some []) (hg : Gl X x) (hx : Passes CX X E) (ha : PA X (e :: es) t) (z : InZ Z X := by exact ⟨rfl, rfl, rfl, rfl, rfl⟩)
    (hdb : (x == ("__debug__" : Str)) = false := by decide) (he : starEach (e :: es) X.env = (false, eval e X.env) :: starEach es X.env := by rfl) (hpl : (backTo pos (starEach es X.env)).any (·.1) = false := by rfl) :
    PE X (.Call (.Name x p) (e :: es) [] pos) (tCall sp [] E t) := by
  obtain ⟨f, fd, G, h1, h2, h3⟩ := c
  obtain ⟨e1, e2, e3, e4, e5⟩ := z
  rw [← e1, ← e2, ← e3, ← e4, ← e5] at G
  rw [← e4] at h1
  rw [← e3] at h2 h3
  refine ⟨fun pins s σ H Q I h => ?_⟩
  refine wpAny_Call_Name_kw (ld_glob I hg h1 ?_ hdb)
  refine PySem.W.callWith_K (h₀ := X.base) I.ok.mod.kin h2 (thn (ha.run pos pins s σ H _ I h) fun us s1 ⟨vs, H1, I1, r, q⟩ => ⟨I1.kIn, ?_⟩) he hpl
  have q : sp (vs ++ []) H1 Q E := q
  rw [List.append_nil] at q
  have hl : us.length = ps.length := r.length.symm.trans (G.len _ _ _ _ q)
  have b := h3 s1 us I1.kIn (by rw [List.append_nil]; exact hl)
  rw [List.append_nil] at b
  refine wpAny_call (codeAny_mono (G.run X.A X.stack s1 H1 ⟨us, []⟩ us vs Q E hr hgd I1.env0 b r q) fun rr s' hq => ?_)
  cases rr with
  | error e => exact hx pins σ H1 s1 e s' I1 hq
  | ok fl =>
    cases fl with
    | ret u => exact I1.after hq
    | next => exact False.elim hq
    | brk => exact False.elim hq
    | cont => exact False.elim hq
end
/-! ### repr -/
section
variable {X : Cx}
theorem reads_flat {h : Heap} {v : Value} {d : PyData} {as : List Addr} (r : Reads h v d as) : (∃ a, v = .ref a) ∨ ∀ a, v ≠ .ref a := by
  cases v <;> first | exact .inl ⟨_, rfl⟩ | exact .inr fun a z => nomatch z
def rRepr (K : PySem.W.Frag) : List V → Hp → VK → Prop := fun xs H Q => ∃ (v : V) (d : PyData), xs = [v] ∧ Dp K H v d ∧ d.showable = true ∧ d.hasDict = false ∧ d.depth ≤ 60 ∧ d.shown.length ≤ sizeLine ∧ Q (.str d.shown) H
theorem call_repr (hg : X.A.guards = some []) (hu : X.A.units + 64 < cLine) : CallR X (.builtin "repr") (rRepr X.K) := by
  intro pins s σ H xs us Q I r h
  obtain ⟨v, d, rfl, hd, hs, hn, hdp, hz, q⟩ := h
  obtain ⟨u, rfl, r1⟩ := vals1 r
  obtain ⟨as, rd⟩ := Dp.reads I d v u hd r1
  rcases reads_flat rd with ⟨a, rfl⟩ | hf
  · exact repr_of_reads' rd hs (PyData.noDict_hsm hn) hg (by omega) (fun _ _ e => e) (fun h' tu tk k => ⟨.str d.shown, H, I.kept (t' := tk) k, ⟨_, rfl⟩, q⟩) hz
  · cases hd with
    | non => cases r1; exact PySem.P.repr_of_none ⟨.str _, H, I.tok _, ⟨_, rfl⟩, q⟩
    | bl b => cases r1; exact PySem.P.repr_of_bool ⟨.str _, H, I.tok _, ⟨_, rfl⟩, q⟩
    | int i => obtain ⟨t, rfl⟩ := r1; exact PySem.P.repr_of_int (of_decide_eq_true hs) ⟨.str _, H, I.tok _, ⟨_, rfl⟩, q⟩
    | str x => obtain ⟨t, rfl⟩ := r1; exact PySem.P.repr_of_str ⟨.str _, H, I.tok _, ⟨_, rfl⟩, q⟩ hz
    | lst _ _ => cases r1; exact absurd rfl (hf _)
    | tup _ _ => cases r1; exact absurd rfl (hf _)
end
/-! ### the end of a law that is called so -/
section
variable {P : Program} {w : World} {K : PySem.W.Frag} {mg mb : Str → Option Value} {CX : CXT} {k : Nat} {fa a : Addr} {fd : FuncData} {x : Str} {sp : Sp} {s : Shared}
/-- the call over an abstract heap that tracks at most the script -/
theorem call_from {H : Hp} (KX : K.In s.heap) (hns : s.heap.Ns mainGlobals mg) (hb : s.heap.Ns builtinsNs mb) (hbb : ∀ x : Str, x ≠ "__name__" → mb x = bootBuiltins x) (hlim : s.heap.NoLimit) (hg : s.gens = #[])
    (hr : Room k callerA) (F : ∀ base : Heap, K.In base → base.Ns mainGlobals mg → FnG P w K mg base CX k fa fd [x] sp) (hbind : ∀ (s : Shared) (u : Value), BindsTo s fd ⟨[u], []⟩ [(x, u)])
    (hsp : sp [.ref a] H (fun v _ => v = .bl true) fun _ _ _ => False) (hCX : ∀ H e s', CX [] H s (fun _ _ _ => False) e s' → False)
    (hO : Only H) (hok : HOk P w H s.heap) (hK : ∀ b o, K.lookup b = some o → H b = none) (hD : ∀ b o es ep, s.heap.get? b = some o → o.data = .dict es ep → H b = none) :
    codeAny (model P w) callerA (.call (.ref fa) ⟨[.ref a], []⟩) (fun r s' => r = .ok (.ret (.bool true)) ∧ OldK s.heap s'.heap ∧ s'.os = s.os ∧ AllBare s'.gens) s := by
  have nsK : ∀ {b : Addr} {m : Str → Option Value}, s.heap.Ns b m → (hidT s.heap H).Ns b m := fun {b m} ⟨o, es, ep, e, d, r⟩ => ⟨o, es, ep, hidT_get e (hD b o es ep e d), d, r⟩
  have hKb : K.In (hidT s.heap H) := fun b o e => hidT_get (KX b o e) (hK b o e)
  obtain ⟨mc, l1, l2⟩ := hlim
  have e0 : Env0 P w K mg (hidT s.heap H) callerA [] s H :=
    ⟨rfl, ⟨hKb, nsK hns, ⟨mb, nsK hb, hbb⟩, ⟨mc, nsK l1, l2⟩⟩, fun b o e => of_hidT e, Nat.le_of_eq (hidT_size _ _), trivial, fun b hb => absurd (show b ∈ ([] : List Addr) from hb) (by simp), hok, .of_eq hg⟩
  refine codeAny_mono ((F _ hKb (nsK hns)).run callerA [] s H ⟨[.ref a], []⟩ [.ref a] [.ref a] _ _ hr rfl e0 (hbind s (.ref a)) (.cons rfl .nil) hsp) fun r s' h => ?_
  cases r with
  | error e => exact (hCX H e s' h).elim
  | ok fl =>
    cases fl with
    | next => exact False.elim h
    | brk => exact False.elim h
    | cont => exact False.elim h
    | ret u =>
      obtain ⟨v, H', os, bare, un, hok', r', q⟩ := h
      obtain rfl : v = .bl true := q
      obtain rfl : u = Value.bool true := r'
      refine ⟨rfl, OldK.of_keep fun b o e => ?_, os, bare⟩
      rcases hO b with z | ⟨ob, xs, z⟩
      · exact un.keep b o e z (fun y => absurd (show b ∈ ([] : List Addr) from y) (by simp)) (by simp)
      · obtain ⟨e1, _⟩ := hok b _ z
        obtain ⟨e2, _⟩ := hok' b _ (un.frzs b ob _ z)
        exact (Option.some.inj (e1.symm.trans e)) ▸ e2
end
theorem walk_G {l : PySem.W.OpenLaw} {n k : Nat} {q : Program} {loose : List Str} {XP : (Str → Option Value) → Heap → Prop} {YP : World → Heap → Prop} {d : DefRec} {CX : CXT} {x : Str}
    (hn : l.most = some n) (hn2 : n ≤ sizeLine) (hdf : d.params.defaults = []) (hr : Room k callerA)
    (F : ∀ (w : World) (mg : Str → Option Value) (fa : Addr) (h : Heap), YP w h → h.Ns mainGlobals mg → mg d.name = some (.ref fa) →
      ∃ (K : PySem.W.Frag) (fd : FuncData) (sp : Sp), K.In h ∧ (∀ (s : Shared) (u : Value), BindsTo s fd ⟨[u], []⟩ [(x, u)]) ∧
        (∀ (H : Hp) (a : Addr) (ns : List Int), ns.length ≤ n → Only H → SqL K H a (ns.map V.int) → sp [.ref a] H (fun v _ => v = .bl true) fun _ _ _ => False) ∧
        ∀ base : Heap, K.In base → base.Ns mainGlobals mg → FnG l.prog w K mg base CX k fa fd [x] sp)
    (hCX : ∀ (H : Hp) (s : Shared) (e : Value) (s' : Shared), CX [] H s (fun _ _ _ => False) e s' → False) :
    PySem.W.WalkO q loose XP YP l.row.toRowW d [] (fun f vs => PySem.call f vs) := by
  refine Att.attach_call hn hdf fun w s₀ s₁ mg mb fa o pm cd doc a vs ns G Y ho hd hcd hmg hobj hints hlen hg => ?_
  obtain ⟨K, fd, sp, KX, hb, hsp, hF⟩ := F w mg fa _ Y G.T.g hmg
  have rv := vals_ints hints
  have hsz : ns.length ≤ sizeLine := Nat.le_trans hlen hn2
  have noD : ∀ b o es ep, s₁.heap.get? b = some o → o.data = .dict es ep → b ≠ a := fun b o es ep e d z => by
    subst z
    rw [hobj] at e
    cases e
    exact nomatch (show Data.seq vs.toArray _ = Data.dict es ep from d)
  cases hk : K.lookup a with
  | some ob =>
    have e := KX a ob hk
    rw [hobj] at e
    cases e
    have hS : SqL K (fun _ => none) a (ns.map V.int) := .inr ⟨_, vs.toArray, _, hk, rfl, rfl, rfl, by rw [List.size_toArray, hints.length]; exact hsz, by simpa using rv⟩
    exact call_from KX G.T.g G.T.b G.T.builtins G.T.nolimit hg hr hF hb (hsp _ a ns hlen (fun _ => .inl rfl) hS) (fun H e s' => hCX H s₁ e s') (fun _ => .inl rfl) (fun b u z => by have z' : (none : Option HO) = some u := z; cases z') (fun _ _ _ => rfl) (fun _ _ _ _ _ _ => rfl)
  | none =>
    have at_ : ∀ b, (if b = a then some (HO.frz { cls := .type "list", data := .seq vs.toArray } (.lst (ns.map V.int))) else none) = none ∨ b = a := fun b => by
      by_cases h : b = a
      · exact .inr h
      · exact .inl (if_neg h)
    have hO : Only (fun b => if b = a then some (HO.frz { cls := .type "list", data := .seq vs.toArray } (.lst (ns.map V.int))) else none) := fun b => by
      by_cases h : b = a
      · exact .inr ⟨_, _, if_pos h⟩
      · exact .inl (if_neg h)
    refine call_from KX G.T.g G.T.b G.T.builtins G.T.nolimit hg hr hF hb (hsp _ a ns hlen hO (.inl (.inr ⟨{ cls := .type "list", data := .seq vs.toArray }, if_pos rfl⟩))) (fun H e s' => hCX H s₁ e s') hO (fun b u z => ?_) (fun b o e => ?_) (fun b o es ep e d => if_neg (noD b o es ep e d))
    · by_cases h : b = a
      · subst h
        cases (if_pos rfl).symm.trans z
        exact ⟨hobj, by rw [List.length_map]; exact hsz, vs, _, rv, hobj⟩
      · cases (if_neg h).symm.trans z
    · refine if_neg fun z => ?_
      subst z
      rw [hk] at e
      cases e
end Ps

/-! A lambda x: str(x) as the key of a sort; tables that grow. -/
namespace Ps
open PySem PySem.Spec PyProof.Rows PySem.W L2 LamX

/-! ### tables that grow -/
/-- all that is tracked stays, but p, and tables, which grow as they may -/
structure Gr (T : List (Addr × Str)) (p : Option Addr) (H H' : Hp) : Prop where
  x : ∀ b o, some b ≠ p → H b = some o → (∀ ps, o ≠ .tbl ps) → H' b = some o
  t : Tabs T H → Tabs T H'
  f : ∀ b, H' b = none → H b = none
abbrev Grow (T : List (Addr × Str)) : Hp → Hp → Prop := Gr T none
section
variable {T : List (Addr × Str)} {p : Option Addr} {H H1 H2 : Hp}
theorem Gr.refl (H : Hp) : Gr T p H H := ⟨fun _ _ _ h _ => h, fun h => h, fun _ h => h⟩
theorem Gr.trans (a : Gr T p H H1) (b : Gr T p H1 H2) : Gr T p H H2 := ⟨fun c o hc h n => b.x c o hc (a.x c o hc h n) n, fun h => b.t (a.t h), fun c h => a.f c (b.f c h)⟩
theorem Gr.of (e : Same H H1) : Gr T p H H1 := ⟨fun b o _ h _ => e b o h, fun h => h.ext e, fun b h => e.free h⟩
theorem Gr.up (g : Gr T none H H1) : Gr T p H H1 := ⟨fun b o _ h n => g.x b o (by simp) h n, g.t, g.f⟩
theorem Gr.new {l : Addr} {o : HO} (n : H l = none) : Gr T p H (upd H l o) := .of fun b u e => by
  rw [upd_ne (ne_of_none e n)]
  exact e
theorem Gr.at {b : Addr} {o : HO} (g : Gr T p H H1) (h : H b = some o) (hb : some b ≠ p := by simp) (n : ∀ ps, o ≠ .tbl ps := by intro _ z; cases z) : H1 b = some o := g.x b o hb h n
/-- what is no table and no code object is put -/
theorem tabs_put (t : Tabs T H1) {D : Addr} {u o : HO} (hD : H1 D = some u) (n1 : ∀ ps, u ≠ .tbl ps) (n2 : ∀ c q, u ≠ CodeO c q) : Tabs T (upd H1 D o) := fun m hm => by
  obtain ⟨ps, e1, e2, e3⟩ := t m hm
  refine ⟨ps, ?_, e2, fun pos cv hc => ?_⟩
  · rw [upd_ne fun z => n1 ps (by rw [← z, e1] at hD; exact (Option.some.inj hD).symm)]
    exact e1
  · obtain ⟨c, z1, z2⟩ := e3 pos cv hc
    refine ⟨c, z1, ?_⟩
    rw [upd_ne fun z => n2 c m.2 (by rw [← z, z2] at hD; exact (Option.some.inj hD).symm)]
    exact z2
theorem upd_free {D : Addr} {o : HO} (f : ∀ b, H1 b = none → H b = none) {b : Addr} (h : upd H1 D o b = none) : H b = none := by
  by_cases z : b = D
  · subst z
    rw [upd_same] at h
    cases h
  · rw [upd_ne z] at h
    exact f b h
theorem Gr.put (g : Gr T p H H1) {D : Addr} {xs : List V} {o : HO} (n : H D = none) (hD : H1 D = some (.lst xs)) : Gr T p H (upd H1 D o) :=
  ⟨fun b u hb h nt => by
    rw [upd_ne (ne_of_none h n)]
    exact g.x b u hb h nt, fun h => tabs_put (g.t h) hD (fun _ z => by cases z) (fun _ _ z => by cases z), fun b h => upd_free g.f h⟩
theorem Gr.putD (g : Gr T p H H1) {D : Addr} {xs : List (Key × V)} {o : HO} (n : H D = none) (hD : H1 D = some (.dK xs)) : Gr T p H (upd H1 D o) :=
  ⟨fun b u hb h nt => by
    rw [upd_ne (ne_of_none h n)]
    exact g.x b u hb h nt, fun h => tabs_put (g.t h) hD (fun _ z => by cases z) (fun _ _ z => by cases z), fun b h => upd_free g.f h⟩
/-- only p was changed -/
theorem Gr.only {l : Addr} {xs : List V} {o : HO} (hl : H l = some (.lst xs)) (hl1 : H1 l = some o) (e : ∀ b, b ≠ l → H1 b = H b) : Gr T (some l) H H1 :=
  ⟨fun b o hb h _ => by
    rw [e b fun z => hb (by rw [z])]
    exact h, fun t m hm => by
    obtain ⟨ps, e1, e2, e3⟩ := t m hm
    refine ⟨ps, ?_, e2, fun pos cv hc => ?_⟩
    · rw [e _ fun z => by rw [z, hl] at e1; cases e1]
      exact e1
    · obtain ⟨c, z1, z2⟩ := e3 pos cv hc
      refine ⟨c, z1, ?_⟩
      rw [e _ fun z => by rw [z, hl] at z2; cases z2]
      exact z2, fun b h => by
    by_cases z : b = l
    · subst z
      rw [hl1] at h
      cases h
    · rw [← e b z]
      exact h⟩
theorem Gr.seqT {K : Frag} {a : Addr} {xs : List V} (g : Gr T p H H1) (h : SqT K H a xs) (ha : some a ≠ p := by simp) : SqT K H1 a xs := by
  rcases h with (h | ⟨o, h⟩) | h
  · exact .inl (.inl (g.x _ _ ha h fun _ z => by cases z))
  · exact .inl (.inr ⟨o, g.x _ _ ha h fun _ z => by cases z⟩)
  · exact .inr h
theorem Gr.rdK {a : Addr} {kvs : List (Key × V)} (g : Gr T p H H1) (h : Rd H a (.dK kvs)) (ha : some a ≠ p := by simp) : Rd H1 a (.dK kvs) := by
  rcases h with h | ⟨o, h⟩
  · exact .inl (g.x _ _ ha h fun _ z => by cases z)
  · exact .inr ⟨o, g.x _ _ ha h fun _ z => by cases z⟩
theorem tyX_x {K : Frag} {v : V} {t : Value} (e : ∀ b o, H b = some o → (∀ ps, o ≠ .tbl ps) → H1 b = some o) (h : TyX K H v t) : TyX K H1 v t := by
  have e' : ∀ {b : Addr} {o : HO}, H b = some o → (∀ ps, o ≠ .tbl ps) → H1 b = some o := fun h n => e _ _ h n
  cases h with
  | base h =>
    refine .base ?_
    cases h with
    | non => exact .non
    | bl x => exact .bl x
    | int i => exact .int i
    | str x => exact .str x
    | flt x => exact .flt x
    | lst h => exact .lst (e' h fun _ z => by cases z)
    | frz h => exact .frz (e' h fun _ z => by cases z)
    | tup h => exact .tup (e' h fun _ z => by cases z)
    | dK h => exact .dK (e' h fun _ z => by cases z)
    | dT h => exact .dT (e' h fun _ z => by cases z)
    | ins h cl ha hn htk hm => exact .ins (e' h fun _ z => by cases z) cl ha hn htk hm
  | byt b => exact .byt b
  | set h => exact .set (e' h fun _ z => by cases z)
  | kList h c => exact .kList h c
  | kTuple h c => exact .kTuple h c
  | kDict h c => exact .kDict h c
  | fTuple h => exact .fTuple (e' h fun _ z => by cases z)
  | fDict h => exact .fDict (e' h fun _ z => by cases z)
theorem Gr.ty {K : Frag} {v : V} {t : Value} (g : Gr T none H H1) (h : TyX K H v t) : TyX K H1 v t := tyX_x (fun b o h n => g.x b o (by simp) h n) h
theorem tyX_same {K : Frag} {v : V} {t : Value} (e : Same H H1) (h : TyX K H v t) : TyX K H1 v t := tyX_x (fun b o h _ => e b o h) h
theorem Gr.seq {K : Frag} {a : Addr} {xs : List V} (g : Gr T p H H1) (h : SqL K H a xs) (ha : some a ≠ p := by simp) : SqL K H1 a xs := by
  rcases h with (h | ⟨o, h⟩) | h
  · exact .inl (.inl (g.x _ _ ha h fun _ z => by cases z))
  · exact .inl (.inr ⟨o, g.x _ _ ha h fun _ z => by cases z⟩)
  · exact .inr h
end
/-! ### function objects -/
/-- the function object at f -/
def LamO (f : Addr) (o : Obj) : HO := .ext fun h => h.get? f = some o
theorem lamO_ok {P : Program} {w : World} {H : Hp} {h : Heap} {f : Addr} {o : Obj} (e : h.get? f = some o) : ObjOk P w H h f (LamO f o) := ⟨e, ⟨o, e⟩, fun h1 h2 e1 k => k _ e1⟩
/-- lambda x: str(x) -/
structure StrL (params : Arguments) (body : Expr) (scope : Scope) : Prop where
  ex : ∃ (x : Str) (p1 p2 p3 : Pos), body = .Call (.Name "str" p1) [.Name x p2] [] p3 ∧ scope.names.lookup x = some .local ∧ scope.names.lookup ("str" : Str) = some .globalImplicit ∧ (x == ("__debug__" : Str)) = false ∧
    ∀ (q : Str) (cl : List (Str × Addr)) (pm cv ctv u : Value), bindArgs (kla_fn "<lambda>" q params body scope cl pm cv ctv) ⟨[u], []⟩ = pure [(x, u)]
  kind : scope.kind = .function
  co : scope.isCoroutine = false
  gen : scope.isGenerator = false
  own : ∀ y ∈ scope.names, y.2 ≠ .cell
  free : ∀ y ∈ scope.names, y.2 ≠ .free
/-- str(v) is the text k -/
def StrOf (P : Program) (w : World) (v : Value) (k : Str) : Prop := ∀ (A : Around) (E : Value → Shared → Prop) (s : Shared), wpAny (model P w) A (call (.type "str") [v]) (fun r s' => ∃ t tk, r = .str k t ∧ s' = { s with toks := tk }) E s
theorem strOf_str {P : Program} {w : World} {k : Str} {t : Tok} : StrOf P w (.str k t) k := fun A E s => PySem.P.str_of_str ⟨t, s.toks, rfl, rfl⟩
theorem strOf_int {P : Program} {w : World} {i : Int} {t : Tok} (h : i.natAbs.log2 < 1920) : StrOf P w (.int i t) (toString i) := fun A E s => PySem.P.str_of_int h ⟨s.toks, s.toks + 1, rfl, rfl⟩
theorem str_turn {P : Program} {w : World} {A : Around} {s : Shared} {K : Frag} {mg : Str → Option Value} {q : Str} {params : Arguments} {body : Expr} {scope : Scope} {cl : List (Str × Addr)} {pm ctv v : Value} {f c' : Addr} {k : Str}
    (L : StrL params body scope) (M : Mod K mg s.heap) (hm : mg "str" = none) (hf : s.heap.get? f = some (kla_obj "<lambda>" q params body scope cl pm c' ctv))
    (hc : ∃ (oc : Obj) (vs : Array Value) (t : Tok), s.heap.get? c' = some oc ∧ oc.data = .fields vs ∧ vs[1]? = some (.str q t)) (hd : A.depth < recursionLimit) (hk : StrOf P w v k) :
    wpAny (model P w) A (call (.ref f) [v]) (KeyPure (.str k) s) (fun _ _ => False) s := by
  obtain ⟨x, p1, p2, p3, eb, hx, hs, hdb, hbind⟩ := L.ex
  obtain ⟨oc, vs, t, hoc, hdc, hvc⟩ := hc
  refine wpAny_call (kla_callFunE hd hf rfl L.co L.gen rfl ⟨c', oc, vs, t, rfl, hoc, hdc, hvc⟩ ?_)
  rw [hbind]
  refine wpAny_pure (wpAny_newFunctionEnv L.own (fun y hy => by rw [List.mem_singleton.mp hy]; exact hx) (fun h₁ hns hsb => ⟨M.nolimit.fresh _ hsb, ?_⟩) L.kind)
  show codeAny _ _ (.expr body (envX q scope s.heap.objs.size f (.ref c') cl)) _ _
  have kp : ∀ b o, s.heap.get? b = some o → h₁.get? b = some o := fun b o e => hsb.extBut b o (Nat.ne_of_lt (Heap.lt_size e)) (Heap.get?_push_of_some _ e)
  obtain ⟨mb, hb1, hb2⟩ := M.blt
  refine kla_codeExpr ?_
  rw [eb]
  refine wpAny_Call_Name_kw (Calls.Name_function_global L.kind hs (Calls.loadGlobal_builtin (M.glob.keeps kp) hm (hb1.keeps kp) ((hb2 "str" (by decide)).trans (by rfl : bootBuiltins "str" = some (.type "str"))) ?_))
  have hv : (fun y => ([(x, v)] : List (Str × Value)).reverse.lookup y) x = some v := by simp [List.lookup]
  refine PyProof.Rows.callWith_type1 (T := "str") (Calls.spliced_cons (wpAny_Name (wpAny_loadName_local L.kind hx hns hv ?_) hdb))
  refine Calls.spliced_nil (wpAny_mono (hk _ _ _) (fun r s' ⟨t, tk, e1, e2⟩ => ?_) fun _ _ z => z)
  subst e1
  subst e2
  exact ⟨h₁, tk, rfl, kp, .str k t⟩
/-! ### sorted(x, key=f) -/
section
variable {prog : Program} {w : World} {A : Around} {E : Value → Shared → Prop} {s : Shared}
theorem args_sortedK (a v : Value) : argsOk "sorted" ⟨[a], [(Str.ofString "key", v)]⟩ := by unfold argsOk; kernel_rfl
theorem args_list_sortK (a v : Value) : argsOk "list.sort" ⟨[a], [(Str.ofString "key", v)]⟩ := by unfold argsOk; kernel_rfl
theorem collect_seq {T : String} {l : Addr} {vs : List Value} {o : Obj} {n : Nat} {Q : List Value → Shared → Prop} (hT : T = "list" ∨ T = "tuple") (ho : s.heap.get? l = some o) (hc : o.cls = .type T) (hd : o.data = .seq vs.toArray n)
    (h : ∀ h', (∀ b o, s.heap.get? b = some o → h'.get? b = some o) → Q vs { s with heap := h' }) (hsz : vs.length ≤ sizeLine) :
    wpAny (model prog w) A (collect (.ref l)) Q E s := by
  unfold collect
  refine wpAny_bind (wpAny_runValue (codeAny_builtin entry_proto_collect' ?_))
  show wpAny _ _ (do again (.builtin "list.__iadd__" ⟨[← newList [], .ref l], []⟩)) _ _ s
  refine wpAny_bind (wpAny_newList (wpAny_pure ⟨Code.quiet_builtin _ (by decide +kernel), codeAny_builtin entry_list_iadd' ?_⟩))
  show wpAny _ _ (Builtin.List.listExtendWith (.ref s.heap.objs.size) (.ref l) (.ref s.heap.objs.size)) _ _ { s with heap := s.heap.push (seqObj "list" #[] 0) }
  unfold Builtin.List.listExtendWith
  have ho' : (s.heap.push (seqObj "list" #[] 0)).get? l = some o := Heap.get?_push_of_some _ ho
  refine wpAny_bind (wpAny_typeOf (T := T) ⟨o, ho', hc⟩ ?_)
  have ht : (Value.type T == Value.type "list" || Value.type T == Value.type "tuple") = true := by
    rcases hT with e | e
    · rw [e]; decide
    · rw [e]; decide
  rw [if_pos (by
    rcases hT with e | e
    · rw [e]; simp
    · rw [e]; simp)]
  refine wpAny_bind (listItems_at ho' hd ?_)
  refine wpAny_bind (listItems_at (xs := #[]) (n := 0) (Heap.get?_push_size _ rfl) rfl ?_)
  rw [if_neg (by simp)]
  refine wpAny_bind (listUpdate_at (xs := #[]) (n := 0) (Heap.get?_push_size _ rfl) rfl ?_ (Nat.zero_le _) (by show (#[] ++ vs.toArray).size ≤ sizeLine + 1; simp only [Array.size_append, List.size_toArray, List.length_nil]; omega))
  refine wpAny_pure ?_
  show wpAny (model prog w) A (do
      let o ← load s.heap.objs.size
      match o.data with
      | .seq xs _ => pure xs.toList
      | _ => unsupported "internal:collect") Q E { s with heap := (s.heap.push (seqObj "list" #[] 0)).update s.heap.objs.size (Obj.mapSeq (· ++ vs.toArray)) }
  refine wpAny_bind (wpAny_load (get?_update_seq (Heap.get?_push_size _ rfl) _) ?_)
  show wpAny _ _ (pure ((#[] : Array Value) ++ vs.toArray).toList) Q E _
  rw [show ((#[] : Array Value) ++ vs.toArray).toList = vs by simp]
  exact wpAny_pure (h _ fun b o e => (Heap.get?_update_ne _ _ _ _ (Nat.ne_of_lt (Heap.lt_size e))).trans (Heap.get?_push_of_some _ e))
theorem sortedH {β : Type} {a q : Addr} {R : Value → β → Prop} {bs : List β} {Q : Value → Shared → Prop} (k : β → PyData) (hal : AllAlike (bs.map k)) (hk : Sortable (bs.map k)) (hL : bs.length ≤ sizeLine) (hu : ∀ x, x ∈ bs → A.units + 2 + (k x).depth < cLine)
    (col : ∀ (Q : List Value → Shared → Prop) (E : Value → Shared → Prop), (∀ h' tk vs, (∀ b o, s.heap.get? b = some o → h'.get? b = some o) → EachIs R vs bs → Q vs { s with heap := h', toks := tk }) → wpAny (model prog w) A.in1 (collect (.ref a)) Q E s)
    (turn : ∀ (v : Value) (x : β), R v x → x ∈ bs → ∀ (h : Heap) (tk : Nat), (∀ b o, s.heap.get? b = some o → h.get? b = some o) → wpAny (model prog w) A.in1.in1 (call (.ref q) [v]) (KeyPure (k x) { s with heap := h, toks := tk }) (fun _ _ => False) { s with heap := h, toks := tk })
    (h : ∀ (out : List Value) (c : Nat) (h1 h' : Heap) (tk : Nat), (∀ b o, s.heap.get? b = some o → h1.get? b = some o) → (∀ b o, h1.get? b = some o → h'.get? b = some o) → h'.get? h1.objs.size = some (seqObj "list" (List.toArray out) c) → EachIs R out (bs.mergeSort (dataLe false k)) → Q (.ref h1.objs.size) { s with heap := h', toks := tk }) :
    wpAny (model prog w) A (call (.builtin "sorted") [.ref a] [(Str.ofString "key", .ref q)]) Q E s := by
  refine call_function_entry_kw kind_sorted plain_sorted entry_sorted (args_sortedK _ _) ?_
  unfold Builtin.«sorted»
  refine wpAny_bind (m := checkCount "sorted" 1 1 _) (wpAny_pure ?_)
  refine wpAny_bind (col _ _ fun h' tk vs kp e => ?_)
  have hz : vs.length ≤ sizeLine := by rw [e.length]; exact hL
  refine wpAny_bind (wpAny_newList ?_ hz)
  have hoL : (h'.push (seqObj "list" vs.toArray 0)).get? h'.objs.size = some (seqObj "list" vs.toArray 0) := Heap.get?_push_size _ rfl
  have kp2 : ∀ {g : Heap}, KeepsBut h'.objs.size (h'.push (seqObj "list" vs.toArray 0)) g → ∀ b o, s.heap.get? b = some o → g.get? b = some o := fun {g} k b o e =>
    k b o (Nat.ne_of_lt (Heap.lt_size (kp b o e))) (Heap.get?_push_of_some _ (kp b o e))
  show wpAny _ _ _ _ _ { s with heap := h'.push (seqObj "list" vs.toArray 0), toks := tk }
  refine wpAny_bind (wpAny_holding (wpAny_call_entry_kw slot_list_sort ⟨_, hoL, rfl⟩ entry_list_sort ?_ (args_list_sortK _ _)))
  rw [ksk_t1]
  refine keyH_tree (kz := bs.map k) (s := { s with heap := h'.push (seqObj "list" vs.toArray 0), toks := tk }) hoL (by rw [List.length_map]; exact e.length.symm) hz hal hk (bound_map (A := A.in1.in1) hu)
    (keyH_turns (s := { s with heap := h'.push (seqObj "list" vs.toArray 0), toks := tk }) e fun v x hR hx h3 tk3 kp3 => turn v x hR hx h3 tk3 (kp2 kp3)) fun h3 tk3 out c kp3 hD ko => ⟨_, rfl, ?_⟩
  exact wpAny_pure ⟨_, rfl, h out c h' h3 tk3 kp (fun b o q => kp3 b o (Nat.ne_of_lt (Heap.lt_size q)) (Heap.get?_push_of_some _ q)) hD (keyedOut_each k ko e)⟩
end
/-! ### at the hand layer -/
/-- f is a lambda x: str(x) -/
def KeyL (H : Hp) (f : Addr) : Prop := ∃ (q : Str) (params : Arguments) (body : Expr) (scope : Scope) (cl : List (Str × Addr)) (pm ctv : Value) (c' : Addr), StrL params body scope ∧ H f = some (LamO f (kla_obj "<lambda>" q params body scope cl pm c' ctv)) ∧ H c' = some (CodeO c' q)
/-- items that are texts, or small ints, by their texts -/
def KTx (v : V) (k : Str) : Prop := v = .str k ∨ ∃ i : Int, v = .int i ∧ i.natAbs.log2 < 1920 ∧ k = toString i
/-- v is walked: xs -/
def Itr (K : Frag) (H : Hp) (a : Addr) (xs : List V) : Prop := SqL K H a xs ∨ SqT K H a xs ∨ ∃ kvs : List (Key × V), Rd H a (.dK kvs) ∧ xs = kvs.map fun kv => kV kv.1
theorem vals_each : ∀ {xs : List V} {us : List Value}, Vals xs us → EachIs (fun u x => RelV x u) us xs
  | _, _, .nil => .nil
  | _, _, .cons a r => .cons a (vals_each r)
theorem each_vals : ∀ {xs : List V} {us : List Value}, EachIs (fun u x => RelV x u) us xs → Vals xs us
  | _, _, .nil => .nil
  | _, _, .cons a r => .cons a (each_vals r)
/-- the order of a sort by texts -/
def leTx (k : V → Str) (a b : V) : Bool := dataLe false (fun x => PyData.str (k x)) a b
section
variable {X : Cx}
theorem call_sortedStr {k : V → Str} (hcalm : X.calm = true) (hm : X.mg "str" = none) (hr : Room 1 X.A) : CallRK X (.builtin "sorted") [Str.ofString "key"] (fun xs zs H Q => ∃ (a f : Addr) (ys : List V), xs = [.ref a] ∧ zs = [.ref f] ∧ KeyL H f ∧ Itr X.K H a ys ∧ (∀ y ∈ ys, KTx y (k y)) ∧
    ∀ p, H p = none → Q (.ref p) (upd H p (.lst (ys.mergeSort (leTx k))))) := by
  intro pins s σ H xs zs us ws Q I r rz q
  obtain ⟨a, f, ys, ex, ez, hf, hi, hk, q⟩ := q
  subst ex
  subst ez
  obtain ⟨u, eu, rx⟩ := vals1 r
  subst eu
  cases rx
  obtain ⟨u, eu, rx⟩ := vals1 rz
  subst eu
  cases rx
  obtain ⟨qn, params, body, scope, cl, pm, ctv, c', L, hfo, hco⟩ := hf
  have hfo' := (I.hok f _ hfo).1
  obtain ⟨oc, vs, t, hoc, hdc, hvc⟩ := (I.hok c' _ hco).1
  have col : ys.length ≤ sizeLine ∧ ∀ (Q : List Value → Shared → Prop) (E : Value → Shared → Prop), (∀ h' tk vs, (∀ b o, s.heap.get? b = some o → h'.get? b = some o) → EachIs (fun u x => RelV x u) vs ys → Q vs { s with heap := h', toks := tk }) → wpAny (model X.prog X.w) X.A.in1 (collect (.ref a)) Q E s := by
    rcases hi with hi | hi | ⟨kvs, hd, ey⟩
    · obtain ⟨its, r', pl, hz⟩ := I.list hi
      have hlen := r'.length
      obtain ⟨o, ho, hc, n, hd⟩ := pl.isList
      exact ⟨hz, fun Q E h => collect_seq (.inl rfl) ho hc hd (fun h' kp => h h' s.toks its kp (vals_each r')) (by omega)⟩
    · obtain ⟨its, r', pl, hz⟩ := I.tuple hi
      have hlen := r'.length
      obtain ⟨o, ho, hc, n, hd⟩ := pl
      exact ⟨hz, fun Q E h => collect_seq (.inr rfl) ho hc hd (fun h' kp => h h' s.toks its kp (vals_each r')) (by omega)⟩
    · obtain ⟨z, lo, vs, rel, dd⟩ := dk_rd I.hok hd
      obtain ⟨ep, hat⟩ := dd.dictAt
      have ek : (kvs.map fun kv => kV kv.1) = vs.map fun p => kV p.1 := by
        have e := congrArg (List.map kV) rel.keys
        rw [List.map_map, List.map_map] at e
        exact e
      refine ⟨by rw [ey, List.length_map]; exact z, fun Q E h => kdu_collect (A := X.A.in1) (kdl_dict (knd := mixKind X.prog X.w) (kvs := vs) (ep := ep) lo) (I.ok.hd hcalm) hat (by rw [← rel.length]; exact z) fun h' tk acc hk hacc => ?_⟩
      refine h h' tk acc.toList hk ?_
      rw [ey, ek]
      exact vals_each (keys_at (by rw [Array.length_toList]; exact hacc.1) fun j v e => hacc.2 j v (by rw [← Array.getElem?_toList]; exact e))
  refine sortedH (R := fun u x => RelV x u) (bs := ys) (fun x => PyData.str (k x)) (.of fun _ _ => rfl) (.others fun b => ⟨by simp, by simp⟩) col.1 (fun x _ => ?_) col.2 (fun v x hR hx h tk kp => ?_) fun out c h1 h' tk k1 k2 e1 e2 => ?_
  · have := hr.units
    show X.A.units + 2 + 0 < cLine
    omega
  · refine str_turn (k := k x) (mg := X.mg) (K := X.K) (s := { s with heap := h, toks := tk }) L ?_ hm (kp _ _ hfo') ⟨oc, vs, t, kp _ _ hoc, hdc, hvc⟩ hr.depth ?_
    · obtain ⟨m1, m2, ⟨mb, m3, m4⟩, m5⟩ := I.mod
      exact ⟨m1.keeps fun b o e => kp b o (I.bk b o e), m2.keeps fun b o e => kp b o (I.bk b o e), ⟨mb, m3.keeps fun b o e => kp b o (I.bk b o e), m4⟩, m5.keeps fun b o e => kp b o (I.bk b o e)⟩
    · rcases hk x hx with e | ⟨i, e, hb, e2⟩
      · rw [e] at hR
        obtain ⟨t, rfl⟩ := hR
        exact strOf_str
      · rw [e] at hR
        obtain ⟨t, rfl⟩ := hR
        rw [e2]
        exact strOf_int hb
  · have I1 : Inv X pins σ H { s with heap := h1, toks := tk } := I.kept k1
    refine ⟨.ref h1.objs.size, _, I1.laid (t' := tk) k2 (Nat.le_refl _) (show ObjOk X.prog X.w _ h' _ (.lst (ys.mergeSort (leTx k))) from ⟨?_, out, c, each_vals e2, e1⟩), rfl, q _ (I1.hok.fresh (Nat.le_refl _))⟩
    rw [List.length_mergeSort]
    exact col.1
/-- what the maker of lambdas with the code object cd knows -/
structure Mkr (Z : Cz) (T : List (Addr × Str)) (cd : Value) (q : Str) : Prop where
  ex : ∃ c P, cd = .ref c ∧ TabB Z.base Z.mg c P ∧ (P, q) ∈ T ∧ ∀ p ∈ T, p.1 = P → p.2 = q
def tLamK (T : List (Addr × Str)) : TE := fun σ H Q => Tabs T H ∧ ∀ f H1, Grow T H H1 → Tabs T H1 → KeyL H1 f → Q (.ref f) H1
theorem pe_lamK {Z : Cz} {T : List (Addr × Str)} {params : Arguments} {body : Expr} {scope : Scope} {pos : Pos} (M : Mkr Z T X.env.code (X.env.qual ++ "<lambda>")) (L : StrL params body scope) (hdef : defaultsOf params X.env = ([], []) := by rfl) (z : InZ Z X := by exact ⟨rfl, rfl, rfl, rfl, rfl⟩) : PE X (.Lambda params body scope pos) (tLamK T) := by
  obtain ⟨c, P, hcd, TB, hm, hu⟩ := M.ex
  rw [← z.base, ← z.mg] at TB
  refine ⟨fun pins s σ H Q I h => ?_⟩
  obtain ⟨hT, h⟩ := h
  obtain ⟨ps, hP, ht, ha⟩ := hT _ hm
  have hP' : s.heap.get? P = some { cls := .none, data := .fields ps } := I.hok P _ hP
  refine kla_eval hdef ?_
  have clo := closure_ok (env := X.env) (scope := scope) fun y hy e => absurd e (L.free y hy)
  cases hc : codeAmong pos ps.toList with
  | some cv =>
    obtain ⟨c', e, hco⟩ := ha pos cv hc
    subst e
    refine kla_makeFunctionHit (c := c) (ps := ps) clo I.ok.glob (I.mod.glob.keeps I.bk) hcd (TB.code.keeps I.bk) hP' ht hc (TB.bm.keeps I.bk) fun ctv h' tk hx hsz => ?_
    have I1 : Inv X pins σ H { s with heap := h', toks := tk } := I.kept hx
    have n : H h'.objs.size = none := I1.hok.fresh (Nat.le_refl _)
    have g : Grow T H (upd H h'.objs.size (LamO h'.objs.size (kla_obj "<lambda>" (X.env.qual ++ "<lambda>") params body scope (cloFrom X.env.cells scope.names []) ((X.mg "__name__").getD .none) c' ctv))) := .new n
    exact ⟨.ref h'.objs.size, _, I1.laid (t' := tk) (fun b o e => Heap.get?_push_of_some _ e) (Nat.le_refl _) (lamO_ok (Heap.get?_push_size _ rfl)), rfl, h _ _ g (g.t hT) ⟨_, _, _, _, _, _, _, _, L, upd_same, g.x _ _ (by simp) hco codeO_ne⟩⟩
  | none =>
    refine kla_makeFunction (c := c) (ps := ps) clo I.ok.glob (I.mod.glob.keeps I.bk) hcd (TB.code.keeps I.bk) hP' ht hc TB.gP (TB.bm.keeps I.bk) fun c' ctv h' tk hx hge hlt hrec htb => ?_
    obtain ⟨c2, oc, vs, t, e2, hoc, hd, hv⟩ := hrec
    cases e2
    have nC : H c' = none := I.hok.fresh hge
    have I1 := inv_table (t' := tk) (more := #[rawInt pos.line, rawInt pos.col, .ref c']) I hP hx htb hge ⟨oc, vs, t, hoc, hd, hv⟩
    have n := I1.hok.fresh (Nat.le_refl h'.objs.size)
    have g1 : ExtN H (upd (upd H P (.tbl (ps ++ #[rawInt pos.line, rawInt pos.col, .ref c']))) c' (CodeO c' (X.env.qual ++ "<lambda>"))) := fun b o e nt => by
      have nb : b ≠ P := fun z => nt ps (Option.some.inj (e.symm.trans (by rw [z]; exact hP)))
      rw [upd_ne (ne_of_none e nC), upd_ne nb]
      exact e
    have t1 : Tabs T (upd (upd H P (.tbl (ps ++ #[rawInt pos.line, rawInt pos.col, .ref c']))) c' (CodeO c' (X.env.qual ++ "<lambda>"))) := fun p hp => by
      by_cases hb : p.1 = P
      · have eL : (ps ++ #[rawInt pos.line, rawInt pos.col, .ref c']).toList = ps.toList ++ [rawInt pos.line, rawInt pos.col, .ref c'] := by simp
        rw [hu p hp hb, hb]
        refine ⟨_, (upd_ne (ne_of_none hP nC)).trans upd_same, eL ▸ PySem.TriplesOk_snoc _ _ _ _ ht, fun p' cv hcv => ?_⟩
        rcases among_app _ ht (eL ▸ hcv) with z | z
        · obtain ⟨c0, e1, e2⟩ := ha p' cv z
          exact ⟨c0, e1, g1 _ _ e2 codeO_ne⟩
        · exact ⟨c', z, upd_same⟩
      · obtain ⟨ps', a1, a2, a3⟩ := hT p hp
        refine ⟨ps', (upd_ne (ne_of_none a1 nC)).trans ((upd_ne hb).trans a1), a2, fun p' cv hcv => ?_⟩
        obtain ⟨c0, e1, e2⟩ := a3 p' cv hcv
        exact ⟨c0, e1, g1 _ _ e2 codeO_ne⟩
    have g := (Gr.mk (fun b o _ => g1 b o) (fun _ => t1) (fun b h => upd_free (H := H) (fun b h => upd_free (H := H) (fun _ h => h) h) h) : Grow T H _).trans (.new (o := LamO h'.objs.size (kla_obj "<lambda>" (X.env.qual ++ "<lambda>") params body scope (cloFrom X.env.cells scope.names []) ((X.mg "__name__").getD .none) c' ctv)) n)
    refine ⟨.ref h'.objs.size, _, I1.laid (t' := tk) (fun b o e => Heap.get?_push_of_some _ e) (Nat.le_refl _) (lamO_ok (Heap.get?_push_size _ rfl)), rfl, h _ _ g (g.t hT) ⟨_, _, _, _, _, _, _, _, L, upd_same, ?_⟩⟩
    rw [upd_ne (ne_of_none upd_same n)]
    exact upd_same
end
end Ps

/-! The end of a law whose defs make lambdas: tables of code objects stand outside the known heap. -/
namespace Ps
open PySem PySem.Spec PyProof.Rows PySem.W L2 He LamX

abbrev tab0 : Obj := { cls := .none, data := .fields #[] }
section
variable {P : Program} {w : World} {K : Frag} {mg mb : Str → Option Value} {CX : CXT} {k : Nat} {fa a : Addr} {fd : FuncData} {x : Str} {sp : Sp} {s : Shared} {cs : List (Addr × Addr)}
/-- the call over an abstract heap that tracks at most the script and the tables -/
theorem call_fromT {H : Hp} (KX : K.In s.heap) (hns : s.heap.Ns mainGlobals mg) (hb : s.heap.Ns builtinsNs mb) (hbb : ∀ x : Str, x ≠ "__name__" → mb x = bootBuiltins x) (hlim : s.heap.NoLimit) (hg : s.gens = #[])
    (hT : ∀ p ∈ cs, s.heap.get? p.2 = some tab0) (C : ∀ p ∈ cs, CodeHd s.heap p.1 p.2)
    (hbm : ∃ (bm : Addr) (ob : Obj), mg "__builtins__" = some (.ref bm) ∧ bm ≠ builtinsNs ∧ s.heap.get? bm = some ob ∧ ob.cls = .type "module" ∧ ob.dict = some builtinsNs ∧ ob.data = .plain)
    (hr : Room k callerA) (F : ∀ base : Heap, K.In base → base.Ns mainGlobals mg → (∀ p ∈ cs, TabB base mg p.1 p.2) → FnG P w K mg base CX k fa fd [x] sp) (hbind : ∀ (s : Shared) (u : Value), BindsTo s fd ⟨[u], []⟩ [(x, u)])
    (hsp : sp [.ref a] H (fun v _ => v = .bl true) fun _ _ _ => False) (hCX : ∀ H e s', CX [] H s (fun _ _ _ => False) e s' → False)
    (hH : ∀ p ∈ cs, H p.2 = some (.tbl #[])) (hO : ∀ b, H b = none ∨ (∃ p ∈ cs, p.2 = b) ∨ ∃ o xs, H b = some (.frz o (.lst xs))) (hok : HOk P w H s.heap) (hK : ∀ b o, K.lookup b = some o → H b = none)
    (hN : ∀ b o, s.heap.get? b = some o → (∀ vs n, o.data ≠ .seq vs n) → o.data ≠ .fields #[] → H b = none) :
    codeAny (model P w) callerA (.call (.ref fa) ⟨[.ref a], []⟩) (fun r s' => r = .ok (.ret (.bool true)) ∧ OldK s.heap s'.heap ∧ s'.os = s.os ∧ AllBare s'.gens) s := by
  have nsK : ∀ {b : Addr} {m : Str → Option Value}, s.heap.Ns b m → (hidT s.heap H).Ns b m := fun {b m} ⟨o, es, ep, e, d, r⟩ => ⟨o, es, ep, hidT_get e (hN b o e (fun _ _ z => by rw [d] at z; cases z) fun z => by rw [d] at z; cases z), d, r⟩
  have hKb : K.In (hidT s.heap H) := fun b o e => hidT_get (KX b o e) (hK b o e)
  obtain ⟨mc, l1, l2⟩ := hlim
  have TB : ∀ p ∈ cs, TabB (hidT s.heap H) mg p.1 p.2 := fun p hp => by
    have hTp := hT p hp
    obtain ⟨og, eg, epg, e0, d0, _⟩ := hns
    refine ⟨?_, ?_, fun z => ?_⟩
    · obtain ⟨o, us, file, tf, flags, tg, inF, text, tt, e1, r1, r2, r3, rest⟩ := C p hp
      have n1 : H p.1 = none := hN _ o e1 (fun vs n z => by rw [r2] at z; cases z) fun z => by
        rw [r2] at z
        cases z
        simp at r3
      exact ⟨o, us, file, tf, flags, tg, inF, text, tt, hidT_get e1 n1, r1, r2, r3, rest⟩
    · obtain ⟨bm, ob, b1, b2, b3, b4, b5, b6⟩ := hbm
      refine ⟨bm, ob, b1, b2, fun q => ?_, fun q => ?_, hidT_get b3 (hN bm ob b3 (fun vs n z => by rw [b6] at z; cases z) fun z => by rw [b6] at z; cases z), b4, b5, b6⟩
      · rw [q, e0] at b3
        cases b3
        rw [d0] at b6
        cases b6
      · rw [q, hTp] at b3
        cases b3
        cases b6
    · rw [z, hTp] at e0
      cases e0
      cases d0
  have e0 : Env0 P w K mg (hidT s.heap H) callerA [] s H :=
    ⟨rfl, ⟨hKb, nsK hns, ⟨mb, nsK hb, hbb⟩, ⟨mc, nsK l1, l2⟩⟩, fun b o e => of_hidT e, Nat.le_of_eq (hidT_size _ _), trivial, fun b hb => absurd (show b ∈ ([] : List Addr) from hb) (by simp), hok, .of_eq hg⟩
  refine codeAny_mono ((F _ hKb (nsK hns) TB).run callerA [] s H ⟨[.ref a], []⟩ [.ref a] [.ref a] _ _ hr rfl e0 (hbind s (.ref a)) (.cons rfl .nil) hsp) fun r s' h => ?_
  cases r with
  | error e => exact (hCX H e s' h).elim
  | ok fl =>
    cases fl with
    | next => exact False.elim h
    | brk => exact False.elim h
    | cont => exact False.elim h
    | ret u =>
      obtain ⟨v, H', os, bare, un, hok', r', q⟩ := h
      obtain rfl : v = .bl true := q
      obtain rfl : u = Value.bool true := r'
      have grown : ∀ p ∈ cs, ∃ more : Array Value, s'.heap.get? p.2 = some { cls := .none, data := .fields more } := fun p hp => by
        obtain ⟨more, z⟩ := un.tbls p.2 #[] (hH p hp)
        exact ⟨_, hok' p.2 _ z⟩
      refine ⟨rfl, ⟨fun b o e => ?_, fun b o e => ?_⟩, os, bare⟩
      · rcases hO b with z | ⟨p, hp, z⟩ | ⟨ob, xs, z⟩
        · exact .inl (un.keep b o e z (fun y => absurd (show b ∈ ([] : List Addr) from y) (by simp)) (by simp))
        · obtain ⟨more, hm⟩ := grown p hp
          subst z
          rw [hT p hp] at e
          cases e
          refine .inr (.inl ⟨((C p hp).tab (hT p hp)).isCodeTable, rfl, #[], more, rfl, ?_⟩)
          rw [Array.empty_append]
          exact hm
        · obtain ⟨e1, _⟩ := hok b _ z
          obtain ⟨e2, _⟩ := hok' b _ (un.frzs b ob _ z)
          exact .inl ((Option.some.inj (e1.symm.trans e)) ▸ e2)
      · rcases hO b with z | ⟨p, hp, z⟩ | ⟨ob, xs, z⟩
        · exact ⟨o, un.keep b o e z (fun y => absurd (show b ∈ ([] : List Addr) from y) (by simp)) (by simp)⟩
        · obtain ⟨more, hm⟩ := grown p hp
          subst z
          exact ⟨_, hm⟩
        · obtain ⟨e2, _⟩ := hok' b _ (un.frzs b ob _ z)
          exact ⟨_, e2⟩
end
theorem walk_GT {l : OpenLaw} {n k : Nat} {q : Program} {loose : List Str} {XP : (Str → Option Value) → Heap → Prop} {YP : World → Heap → Prop} {d : DefRec} {CX : CXT} {x : Str}
    (hn : l.most = some n) (hn2 : n ≤ sizeLine) (hdf : d.params.defaults = []) (hr : Room k callerA)
    (F : ∀ (w : World) (mg : Str → Option Value) (fa : Addr) (h : Heap), YP w h → h.Ns mainGlobals mg → mg d.name = some (.ref fa) →
      ∃ (K : Frag) (fd : FuncData) (sp : Sp) (cs : List (Addr × Addr)), K.In h ∧ (∀ p ∈ cs, h.get? p.2 = some tab0) ∧ (∀ p ∈ cs, K.lookup p.2 = none) ∧ (∀ p ∈ cs, CodeHd h p.1 p.2) ∧ (∀ (s : Shared) (u : Value), BindsTo s fd ⟨[u], []⟩ [(x, u)]) ∧
        (∀ (H : Hp) (a : Addr) (ns : List Int), ns.length ≤ n → (∀ p ∈ cs, H p.2 = some (.tbl #[])) → SqL K H a (ns.map V.int) → sp [.ref a] H (fun v _ => v = .bl true) fun _ _ _ => False) ∧
        ∀ base : Heap, K.In base → base.Ns mainGlobals mg → (∀ p ∈ cs, TabB base mg p.1 p.2) → FnG l.prog w K mg base CX k fa fd [x] sp)
    (hCX : ∀ (H : Hp) (s : Shared) (e : Value) (s' : Shared), CX [] H s (fun _ _ _ => False) e s' → False) :
    WalkO q loose XP YP l.row.toRowW d [] (fun f vs => PySem.call f vs) := by
  refine Att.attach_call hn hdf fun w s₀ s₁ mg mb fa o pm cd doc a vs ns G Y ho hd hcd hmg hobj hints hlen hg => ?_
  obtain ⟨K, fd, sp, cs, KX, hT, nT, C, hb, hsp, hF⟩ := F w mg fa _ Y G.T.g hmg
  have rv := vals_ints hints
  have hsz : ns.length ≤ sizeLine := Nat.le_trans hlen hn2
  have aT : ¬ ∃ p ∈ cs, p.2 = a := fun ⟨p, hp, z⟩ => by
    have q := hT p hp
    rw [z, hobj] at q
    have z' : Data.seq vs.toArray _ = Data.fields #[] := congrArg Obj.data (Option.some.inj q)
    cases z'
  let fz : HO := .frz { cls := .type "list", data := .seq vs.toArray } (.lst (ns.map V.int))
  have core : ∀ H : Hp, (∀ b, (∃ p ∈ cs, p.2 = b) → H b = some (.tbl #[])) → (∀ b, b ≠ a → (¬ ∃ p ∈ cs, p.2 = b) → H b = none) → (H a = none ∨ (H a = some fz ∧ K.lookup a = none)) → SqL K H a (ns.map V.int) →
      codeAny (model l.prog w) callerA (.call (.ref fa) ⟨[.ref a], []⟩) (fun r s' => r = .ok (.ret (.bool true)) ∧ OldK s₁.heap s'.heap ∧ s'.os = s₁.os ∧ AllBare s'.gens) s₁ := by
    intro H h1 h2 h3 hS
    refine call_fromT KX G.T.g G.T.b G.T.builtins G.T.nolimit hg hT C G.T.bmain hr hF hb (hsp H a ns hlen (fun p hp => h1 _ ⟨p, hp, rfl⟩) hS) (fun H e s' => hCX H s₁ e s') (fun p hp => h1 _ ⟨p, hp, rfl⟩) (fun b => ?_) (fun b u z => ?_) (fun b o e => ?_) (fun b o e n1 n2 => ?_)
    · by_cases hb1 : ∃ p ∈ cs, p.2 = b
      · exact .inr (.inl hb1)
      · by_cases hb2 : b = a
        · subst hb2
          rcases h3 with z | ⟨z, _⟩
          · exact .inl z
          · exact .inr (.inr ⟨_, _, z⟩)
        · exact .inl (h2 b hb2 hb1)
    · by_cases hb1 : ∃ p ∈ cs, p.2 = b
      · rw [h1 b hb1] at z
        cases z
        obtain ⟨p, hp, e⟩ := hb1
        rw [← e]
        exact hT p hp
      · by_cases hb2 : b = a
        · subst hb2
          rcases h3 with y | ⟨y, _⟩
          · rw [y] at z
            cases z
          · rw [y] at z
            cases z
            exact ⟨hobj, by rw [List.length_map]; exact hsz, vs, _, rv, hobj⟩
        · rw [h2 b hb2 hb1] at z
          cases z
    · by_cases hb1 : ∃ p ∈ cs, p.2 = b
      · obtain ⟨p, hp, z⟩ := hb1
        rw [← z, nT p hp] at e
        cases e
      · by_cases hb2 : b = a
        · subst hb2
          rcases h3 with y | ⟨_, y⟩
          · exact y
          · rw [y] at e
            cases e
        · exact h2 b hb2 hb1
    · by_cases hb1 : ∃ p ∈ cs, p.2 = b
      · obtain ⟨p, hp, z⟩ := hb1
        rw [← z, hT p hp] at e
        cases e
        exact absurd rfl n2
      · by_cases hb2 : b = a
        · subst hb2
          rw [hobj] at e
          cases e
          exact absurd rfl (n1 _ _)
        · exact h2 b hb2 hb1
  cases hk : K.lookup a with
  | some ob =>
    have e := KX a ob hk
    rw [hobj] at e
    cases e
    have hS : ∀ H : Hp, SqL K H a (ns.map V.int) := fun H => .inr ⟨_, vs.toArray, _, hk, rfl, rfl, rfl, by rw [List.size_toArray, hints.length]; exact hsz, by simpa using rv⟩
    classical
    exact core (fun b => if ∃ p ∈ cs, p.2 = b then some (.tbl #[]) else none) (fun b h => if_pos h) (fun b _ h => if_neg h) (.inl (if_neg aT)) (hS _)
  | none =>
    classical
    refine core (fun b => if ∃ p ∈ cs, p.2 = b then some (.tbl #[]) else if b = a then some fz else none) (fun b h => if_pos h) (fun b h1 h2 => (if_neg h2).trans (if_neg h1)) (.inr ⟨(if_neg aT).trans (if_pos rfl), hk⟩) (.inl (.inr ⟨_, (if_neg aT).trans (if_pos rfl)⟩))
/-! ### the hook -/
def tabO (K : Frag) (m : At) : Option (Addr × Addr) := match K.lookup (m.a K) with
  | some ⟨_, _, .func fd, _⟩ => (match fd.code with
    | .ref c => (match K.lookup c with
      | some ⟨_, _, .fields vs, _⟩ => (match (vs[11]? : Option Value) with
        | some (.ref P) => some (c, P)
        | _ => none)
      | _ => none)
    | _ => none)
  | _ => none
theorem tabO_code {K : Frag} {m : At} {c P : Addr} (h : tabO K m = some (c, P)) {oc : Value} {od : Option Addr} {fd : FuncData} {osl : Array (Option Value)} (e : K.lookup (m.a K) = some ⟨oc, od, .func fd, osl⟩) : fd.code = .ref c := by
  unfold tabO at h
  rw [e] at h
  have h2 : (match fd.code with
    | .ref c => (match K.lookup c with
      | some ⟨_, _, .fields vs, _⟩ => (match (vs[11]? : Option Value) with
        | some (.ref P) => some (c, P)
        | _ => none)
      | _ => none)
    | _ => none) = some (c, P) := h
  split at h2
  · rename_i c0 ec
    split at h2
    · split at h2
      · cases h2
        exact ec
      · cases h2
    · cases h2
  · cases h2
def isTab (o : Option Obj) : Bool := match o with
  | some ⟨.none, none, .fields vs, sl⟩ => vs.toList.isEmpty && sl.toList.isEmpty
  | _ => false
theorem isTab_ok {o : Option Obj} (h : isTab o = true) : o = some tab0 := by
  unfold isTab at h
  split at h
  · rename_i vs sl
    obtain ⟨h1, h2⟩ := ba h
    have e1 : vs = #[] := by simpa using h1
    have e2 : sl = #[] := by simpa using h2
    rw [e1, e2]
  · cases h
/-- the makers' code objects and tables -/
def tabsOf (mk : List (At × Str)) (K : Frag) : List (Addr × Addr) := mk.filterMap fun m => tabO K m.1
def tabsT (mk : List (At × Str)) (K : Frag) : List (Addr × Str) := mk.filterMap fun m => (tabO K m.1).map fun p => (p.2, m.2)
theorem lookup_mem {a : Addr} {o : Obj} : ∀ {K : Frag}, K.lookup a = some o → (a, o) ∈ K
  | [], h => by cases h
  | (b, u) :: K, h => by
    have h' : (match a == b with | true => some u | false => K.lookup a) = some o := h
    cases e : (a == b) with
    | true =>
      rw [e] at h'
      rw [beq_iff_eq.mp e, Option.some.inj h']
      exact List.mem_cons_self ..
    | false =>
      rw [e] at h'
      exact List.mem_cons_of_mem _ (lookup_mem h')
/-- the fragment's members, not only what it answers -/
def GoodM (g : Addr → Option Obj) (acc : Frag) : Prop := ∀ p ∈ acc, g p.1 = some p.2
theorem GoodM.cons {g : Addr → Option Obj} {acc : Frag} {a : Addr} {o : Obj} (h : GoodM g acc) (e : g a = some o) : GoodM g ((a, o) :: acc) := fun p hp => by
  rcases List.mem_cons.mp hp with z | z
  · rw [z]; exact e
  · exact h p z
theorem inQ_okM {α : Type} {g : Addr → Option Obj} {Φ : α → Prop} {k : Nat → Frag → List Addr → α} (hk : ∀ v acc nx, GoodM g acc → Φ (k v acc nx)) : ∀ (l : List Addr) (v : Nat) (acc : Frag) (nx : List Addr), GoodM g acc → Φ (inQ g k l v acc nx)
  | [], v, acc, nx, h => hk v acc nx h
  | a :: r, v, acc, nx, h => by
    unfold inQ
    rw [HandSHeadRun.frNat_eq]
    cases Nat.land (Nat.shiftRight v a) 1 with
    | zero =>
      show Φ (match g a with
        | some o => HandSHeadRun.frNat (Nat.lor v (Nat.shiftLeft 1 a)) fun v => inQ g k r v ((a, o) :: acc) (refsD o ++ nx)
        | none => inQ g k r v acc nx)
      cases e : g a with
      | none => exact inQ_okM hk r v acc nx h
      | some o =>
        show Φ (HandSHeadRun.frNat (Nat.lor v (Nat.shiftLeft 1 a)) fun v => inQ g k r v ((a, o) :: acc) (refsD o ++ nx))
        rw [HandSHeadRun.frNat_eq]
        exact inQ_okM hk r _ _ _ (h.cons e)
    | succ n => exact inQ_okM hk r v acc nx h
theorem outQ_okM {α : Type} {g : Addr → Option Obj} {Φ : α → Prop} {k : Frag → α} (hk : ∀ acc, GoodM g acc → Φ (k acc)) : ∀ (n : Nat) (l : List Addr) (v : Nat) (acc : Frag), GoodM g acc → Φ (outQ g k n l v acc)
  | 0, l, v, acc, h => inQ_okM (fun _ acc _ q => hk acc q) l v acc [] h
  | n + 1, l, v, acc, h => inQ_okM (fun v acc nx q => outQ_okM hk n nx v acc q) l v acc [] h
theorem GoodM.in_ {h : Heap} {K : Frag} (X : GoodM h.get? K) : K.In h := fun a o e => X (a, o) (lookup_mem e)
theorem goodM_nil {g : Addr → Option Obj} (as : List Addr) : GoodM g (frG g as) := fun p hp => by
  obtain ⟨a, _, e⟩ := List.mem_filterMap.mp hp
  cases q : g a with
  | none => rw [q] at e; cases e
  | some o =>
    rw [q] at e
    rw [← Option.some.inj e]
    exact q
/-- turned round: what the rounds saw first is found first -/
def dropR {α : Type} (ts : List Addr) : Frag → Frag → (Frag → α) → α
  | acc, [], k => k acc
  | acc, (a, o) :: r, k => match ts.contains a with
    | true => dropR ts acc r k
    | false => dropR ts ((a, o) :: acc) r k
theorem dropR_eq {α : Type} (ts : List Addr) : ∀ (K acc : Frag) (k : Frag → α), ∃ K' : Frag, dropR ts acc K k = k K' ∧ ∀ p ∈ K', p ∈ acc ∨ p ∈ K
  | [], acc, _ => ⟨acc, rfl, fun p hp => .inl hp⟩
  | (a, o) :: r, acc, k => by
    unfold dropR
    cases e : ts.contains a with
    | true =>
      obtain ⟨K', q, m⟩ := dropR_eq ts r acc k
      exact ⟨K', q, fun p hp => (m p hp).imp id (List.mem_cons_of_mem _)⟩
    | false =>
      obtain ⟨K', q, m⟩ := dropR_eq ts r ((a, o) :: acc) k
      refine ⟨K', q, fun p hp => ?_⟩
      rcases m p hp with z | z
      · rcases List.mem_cons.mp z with y | y
        · exact .inr (by rw [y]; exact List.mem_cons_self ..)
        · exact .inl y
      · exact .inr (List.mem_cons_of_mem _ z)
def uniqB (mk : List (At × Str)) (K : Frag) : Bool := mk.all fun m => mk.all fun m' => match tabO K m.1, tabO K m'.1 with
  | some (_, P), some (_, P') => !(P == P') || m.2 == m'.2
  | _, _ => true
def mkB (mk : List (At × Str)) (K0 K : Frag) : Bool := (tabsOf mk K).all (fun p => isTab (K0.lookup p.2) && (codeHdIn K p.1 p.2 && (K.lookup p.2).isNone)) && (mk.all (fun m => (tabO K m.1).isSome) && uniqB mk K)
def obsM (fn : List DefP) (ex : Frag → Bool) (mk : List (At × Str)) (K0 : Frag) : AlP := dropR ((tabsOf mk K0).map (·.2)) [] K0 fun K => (mkB mk K0 K && (ex K && fn.all fun d => d.ok K), fn.map fun d => fnP K (d.at_.a K))
/-- what is known of the makers' tables -/
structure TabsH (mk : List (At × Str)) (K : Frag) (h : Heap) : Prop where
  tab : ∀ p ∈ tabsOf mk K, h.get? p.2 = some tab0
  out : ∀ p ∈ tabsOf mk K, K.lookup p.2 = none
  code : ∀ p ∈ tabsOf mk K, CodeHd h p.1 p.2
  some_ : ∀ m ∈ mk, ∃ c P, tabO K m.1 = some (c, P)
  uniq : uniqB mk K = true
theorem obsM_ok {fn : List DefP} {ex : Frag → Bool} {mk : List (At × Str)} {K0 : Frag} {h : Heap} (X : GoodM h.get? K0) (e : obsM fn ex mk K0 = valP fn) : ∃ K : Frag, K.In h ∧ SaysP fn ex K ∧ TabsH mk K h := by
  unfold obsM at e
  obtain ⟨K, qK, mK⟩ := dropR_eq ((tabsOf mk K0).map (·.2)) K0 [] fun K => (mkB mk K0 K && (ex K && fn.all fun d => d.ok K), fn.map fun d => fnP K (d.at_.a K))
  rw [qK] at e
  have XK : K.In h := GoodM.in_ fun p hp => (mK p hp).elim (fun z => by cases z) (X p)
  have e1 : (mkB mk K0 K && (ex K && fn.all fun d => d.ok K)) = true := congrArg (fun z : AlP => z.1) e
  have e2 : (fn.map fun d => fnP K (d.at_.a K)) = fn.map DefP.val := congrArg (fun z : AlP => z.2) e
  obtain ⟨c1, c2⟩ := ba e1
  refine ⟨K, XK, ?_, ?_⟩
  · show obsP fn ex K = valP fn
    unfold obsP valP
    rw [c2, e2]
  · obtain ⟨t1, t2⟩ := ba c1
    obtain ⟨t3, t4⟩ := ba t2
    have at_ : ∀ p ∈ tabsOf mk K, isTab (K0.lookup p.2) = true ∧ codeHdIn K p.1 p.2 = true ∧ (K.lookup p.2).isNone = true := fun p hp => by
      obtain ⟨a1, a2⟩ := ba (List.all_eq_true.mp t1 p hp)
      exact ⟨a1, ba a2⟩
    exact ⟨fun p hp => X.in_ _ _ (isTab_ok (at_ p hp).1), fun p hp => Option.isNone_iff_eq_none.mp (at_ p hp).2.2, fun p hp => codeHd_of_K XK (at_ p hp).2.1, fun m hm => by
      obtain ⟨q, hq⟩ := Option.isSome_iff_exists.mp (List.all_eq_true.mp t3 m hm)
      exact ⟨q.1, q.2, hq⟩, t4⟩
theorem TabsH.keeps {mk : List (At × Str)} {K : Frag} {h h' : Heap} (t : TabsH mk K h) (k : ∀ b o, h.get? b = some o → h'.get? b = some o) : TabsH mk K h' :=
  ⟨fun p hp => k _ _ (t.tab p hp), t.out, fun p hp => (t.code p hp).keeps k, t.some_, t.uniq⟩
def obsTG (n : Nat) (fn : List DefP) (ex : Frag → Bool) (mk : List (At × Str)) (g : Addr → Option Obj) : AlP := outQ g (obsM fn ex mk) n [mainGlobals] 0 (frG g [cStatics])
def hookT (n : Nat) (fn : List DefP) (ex : Frag → Bool) (mk : List (At × Str)) : Hook where
  α := AlP
  obs := fun s => obsTG n fn ex mk s.heap.get?
  val := fun _ => valP fn
  says := fun _ h => ∃ K : Frag, K.In h ∧ SaysP fn ex K ∧ TabsH mk K h
  of := fun _ s e => outQ_okM (g := s.heap.get?) (Φ := fun z => z = valP fn → ∃ K : Frag, K.In s.heap ∧ SaysP fn ex K ∧ TabsH mk K s.heap) (fun acc q z => obsM_ok q z) n _ 0 _ (goodM_nil _) e
  keeps := fun _ _ _ ⟨K, hK, c, t⟩ k => ⟨K, Frag.In.keeps hK k, c, t.keeps k⟩
theorem obsTG_eq {n : Nat} {fn : List DefP} {ex : Frag → Bool} {mk : List (At × Str)} {g : Addr → Option Obj} {s : Shared} (h : ∀ a, g a = s.heap.get? a) : obsTG n fn ex mk g = (hookT n fn ex mk).obs s := by
  have e : g = s.heap.get? := funext h
  rw [e] <;> rfl
/-- a maker -/
theorem TabsH.mkr {mk : List (At × Str)} {h : Heap} {Z : Cz} {m : At} {q : Str} {f : Addr} {oc : Value} {od : Option Addr} {fd : FuncData} {osl : Array (Option Value)} (t : TabsH mk Z.K h) (hB : ∀ p ∈ tabsOf mk Z.K, TabB Z.base Z.mg p.1 p.2) (hm : (m, q) ∈ mk) (hf : f = m.a Z.K)
    (e : Z.K.lookup f = some ⟨oc, od, .func fd, osl⟩) : Mkr Z (tabsT mk Z.K) fd.code q := by
  obtain ⟨c, P, ht⟩ := t.some_ _ hm
  subst hf
  refine ⟨c, P, tabO_code ht e, hB (c, P) (List.mem_filterMap.mpr ⟨_, hm, ht⟩), List.mem_filterMap.mpr ⟨_, hm, by rw [ht]; rfl⟩, fun p hp ep => ?_⟩
  obtain ⟨m', hm', e'⟩ := List.mem_filterMap.mp hp
  cases q' : tabO Z.K m'.1 with
  | none => rw [q'] at e'; cases e'
  | some z =>
    rw [q'] at e'
    have e2 : (z.2, m'.2) = p := Option.some.inj e'
    have u := List.all_eq_true.mp (List.all_eq_true.mp t.uniq _ hm) _ hm'
    have u2 : (match tabO Z.K m, tabO Z.K m'.1 with
      | some (_, P), some (_, P') => !(P == P') || q == m'.2
      | _, _ => true) = true := u
    rw [ht, q'] at u2
    have u3 : (!(P == z.2) || q == m'.2) = true := u2
    have e3 : z.2 = P := by rw [← e2] at ep; exact ep
    rw [e3] at u3
    have u4 : q = m'.2 := by simpa using u3
    rw [← e2]
    exact u4.symm
theorem tabs_start {mk : List (At × Str)} {K : Frag} {H : Hp} (h : ∀ p ∈ tabsOf mk K, H p.2 = some (.tbl #[])) : Tabs (tabsT mk K) H := fun p hp => by
  obtain ⟨m, hm, e⟩ := List.mem_filterMap.mp hp
  cases q : tabO K m.1 with
  | none => rw [q] at e; cases e
  | some z =>
    rw [q] at e
    have e2 : (z.2, m.2) = p := Option.some.inj e
    rw [← e2]
    exact TabS.nil (h z (List.mem_filterMap.mpr ⟨m, hm, q⟩))
theorem Got.mkr {mk : List (At × Str)} {h : Heap} {Z : Cz} {x q : Str} {st : Stmt} {f : Addr} {fd : FuncData} (t : TabsH mk Z.K h) (hB : ∀ p ∈ tabsOf mk Z.K, TabB Z.base Z.mg p.1 p.2) (hm : (.g x, q) ∈ mk) (X : Z.K.In h) (G : h.Ns mainGlobals Z.mg) (g : Got Z.K Z.mg x st f fd) (ha : Z.mg x = some (.ref (ga Z.K x))) : Mkr Z (tabsT mk Z.K) fd.code q := by
  have e : f = ga Z.K x := by
    have := g.m.symm.trans ha
    cases this
    rfl
  obtain ⟨oc, od, kV, doc, pm, an, cdv, ct, osl, rfl, lk, hcd⟩ := g.F.ex
  exact t.mkr hB hm e lk
end Ps

/-! The head's defs in two parts, each shown by a run of its own: the kernel's memory is bound for each. -/
namespace Ps
open PySem PySem.Spec PyProof.Rows PySem.W L2 He LamX

theorem inQ_k {α : Type} {g : Addr → Option Obj} (k : Nat → Frag → List Addr → α) : ∀ (l : List Addr) (v : Nat) (acc : Frag) (nx : List Addr), inQ g k l v acc nx = k (inQ g (fun v acc nx => (v, acc, nx)) l v acc nx).1 (inQ g (fun v acc nx => (v, acc, nx)) l v acc nx).2.1 (inQ g (fun v acc nx => (v, acc, nx)) l v acc nx).2.2
  | [], v, acc, nx => rfl
  | a :: r, v, acc, nx => by
    unfold inQ
    simp only [HandSHeadRun.frNat_eq]
    cases Nat.land (Nat.shiftRight v a) 1 with
    | zero =>
      cases e : g a with
      | none => exact inQ_k k r v acc nx
      | some o => exact inQ_k k r _ _ _
    | succ n => exact inQ_k k r v acc nx
theorem outQ_k {α : Type} {g : Addr → Option Obj} (k : Frag → α) : ∀ (n : Nat) (l : List Addr) (v : Nat) (acc : Frag), outQ g k n l v acc = k (outQ g (fun x => x) n l v acc)
  | 0, l, v, acc => by
    unfold outQ
    rw [inQ_k, inQ_k (fun _ acc _ => acc)]
  | n + 1, l, v, acc => by
    unfold outQ
    rw [inQ_k, inQ_k (fun v acc nx => outQ g (fun x => x) n nx v acc)]
    exact outQ_k k n _ _ _
theorem dropR_k {α : Type} (ts : List Addr) (k : Frag → α) : ∀ (K acc : Frag), dropR ts acc K k = k (dropR ts acc K fun x => x)
  | [], acc => rfl
  | (a, o) :: r, acc => by
    unfold dropR
    cases ts.contains a with
    | true => exact dropR_k ts k r acc
    | false => exact dropR_k ts k r _
theorem SaysP.app {fn : List DefP} {ex : Frag → Bool} {K : Frag} (i : Nat) (h1 : SaysP (fn.take i) ex K) (h2 : SaysP (fn.drop i) (fun _ => true) K) : SaysP fn ex K := by
  have a1 : (ex K && (fn.take i).all fun d => d.ok K) = true := congrArg (fun z : AlP => z.1) h1
  have a2 : ((fn.take i).map fun d => fnP K (d.at_.a K)) = (fn.take i).map DefP.val := congrArg (fun z : AlP => z.2) h1
  have b1 : (true && (fn.drop i).all fun d => d.ok K) = true := congrArg (fun z : AlP => z.1) h2
  have b2 : ((fn.drop i).map fun d => fnP K (d.at_.a K)) = (fn.drop i).map DefP.val := congrArg (fun z : AlP => z.2) h2
  obtain ⟨c1, c2⟩ := ba a1
  obtain ⟨_, c3⟩ := ba b1
  have e1 : (fn.all fun d => d.ok K) = true := by
    rw [← List.take_append_drop i fn, List.all_append, c2, c3]
    rfl
  have e2 : (fn.map fun d => fnP K (d.at_.a K)) = fn.map DefP.val := by
    have q : ((fn.take i ++ fn.drop i).map fun d => fnP K (d.at_.a K)) = (fn.take i ++ fn.drop i).map DefP.val := by rw [List.map_append, List.map_append, a2, b2]
    rwa [List.take_append_drop] at q
  show obsP fn ex K = valP fn
  unfold obsP valP
  rw [c1, e1, e2]
  rfl
theorem obsM_both {fn : List DefP} {ex : Frag → Bool} {mk : List (At × Str)} {K0 : Frag} {h : Heap} (i : Nat) (X : GoodM h.get? K0) (e1 : obsM (fn.take i) ex mk K0 = valP (fn.take i)) (e2 : obsM (fn.drop i) (fun _ => true) mk K0 = valP (fn.drop i)) : ∃ K : Frag, K.In h ∧ SaysP fn ex K ∧ TabsH mk K h := by
  have hk : ∀ (K : Frag), K = dropR ((tabsOf mk K0).map (·.2)) [] K0 (fun x => x) → K.In h := fun K e => by
    obtain ⟨K', q, m⟩ := dropR_eq ((tabsOf mk K0).map (·.2)) K0 [] fun x : Frag => x
    rw [e, q]
    exact GoodM.in_ fun p hp => (m p hp).elim (fun z => by cases z) (X p)
  unfold obsM at e1 e2
  rw [dropR_k] at e1 e2
  have XK := hk _ rfl
  generalize dropR ((tabsOf mk K0).map (·.2)) [] K0 (fun x => x) = K at e1 e2 XK
  have a1 : (mkB mk K0 K && (ex K && (fn.take i).all fun d => d.ok K)) = true := congrArg (fun z : AlP => z.1) e1
  have a2 : ((fn.take i).map fun d => fnP K (d.at_.a K)) = (fn.take i).map DefP.val := congrArg (fun z : AlP => z.2) e1
  have b1 : (mkB mk K0 K && (true && (fn.drop i).all fun d => d.ok K)) = true := congrArg (fun z : AlP => z.1) e2
  have b2 : ((fn.drop i).map fun d => fnP K (d.at_.a K)) = (fn.drop i).map DefP.val := congrArg (fun z : AlP => z.2) e2
  obtain ⟨c1, c2⟩ := ba a1
  obtain ⟨_, d2⟩ := ba b1
  refine ⟨K, XK, SaysP.app i ?_ ?_, ?_⟩
  · show obsP _ ex K = valP _
    unfold obsP valP
    rw [c2, a2]
  · show obsP _ (fun _ => true) K = valP _
    unfold obsP valP
    rw [d2, b2]
  · obtain ⟨t1, t2⟩ := ba c1
    obtain ⟨t3, t4⟩ := ba t2
    have at_ : ∀ p ∈ tabsOf mk K, isTab (K0.lookup p.2) = true ∧ codeHdIn K p.1 p.2 = true ∧ (K.lookup p.2).isNone = true := fun p hp => by
      obtain ⟨a1, a2⟩ := ba (List.all_eq_true.mp t1 p hp)
      exact ⟨a1, ba a2⟩
    exact ⟨fun p hp => X.in_ _ _ (isTab_ok (at_ p hp).1), fun p hp => Option.isNone_iff_eq_none.mp (at_ p hp).2.2, fun p hp => codeHd_of_K XK (at_ p hp).2.1, fun m hm => by
      obtain ⟨q, hq⟩ := Option.isSome_iff_exists.mp (List.all_eq_true.mp t3 m hm)
      exact ⟨q.1, q.2, hq⟩, t4⟩
def hookT2 (n i : Nat) (fn : List DefP) (ex : Frag → Bool) (mk : List (At × Str)) : Hook where
  α := AlP × AlP
  obs := fun s => (obsTG n (fn.take i) ex mk s.heap.get?, obsTG n (fn.drop i) (fun _ => true) mk s.heap.get?)
  val := fun _ => (valP (fn.take i), valP (fn.drop i))
  says := fun _ h => ∃ K : Frag, K.In h ∧ SaysP fn ex K ∧ TabsH mk K h
  of := fun _ s e => by
    have e1 : obsTG n (fn.take i) ex mk s.heap.get? = valP (fn.take i) := congrArg (fun z : AlP × AlP => z.1) e
    have e2 : obsTG n (fn.drop i) (fun _ => true) mk s.heap.get? = valP (fn.drop i) := congrArg (fun z : AlP × AlP => z.2) e
    unfold obsTG at e1 e2
    rw [outQ_k] at e1 e2
    exact obsM_both i (outQ_okM (g := s.heap.get?) (Φ := fun z => GoodM s.heap.get? z) (k := fun x => x) (fun acc q => q) n _ 0 _ (goodM_nil _)) e1 e2
  keeps := fun _ _ _ ⟨K, hK, c, t⟩ k => ⟨K, Frag.In.keeps hK k, c, t.keeps k⟩
theorem obsTG2_eq {n i : Nat} {fn : List DefP} {ex : Frag → Bool} {mk : List (At × Str)} {g : Addr → Option Obj} {s : Shared} (h : ∀ a, g a = s.heap.get? a) : (obsTG n (fn.take i) ex mk g, obsTG n (fn.drop i) (fun _ => true) mk g) = (hookT2 n i fn ex mk).obs s := by
  have e : g = s.heap.get? := funext h
  rw [e] <;> rfl
/-- two runs, one head -/
theorem run_both {r : OpenRow} {q : Program} {n i M : Nat} {fn : List DefP} {ex : Frag → Bool} {mk : List (At × Str)} {loose : List PySem.Str} {w : World} {g : SharedT → Addr → Option Obj}
    (h1 : HandSHeadRun.RunEq r q (hookT n (fn.take i) ex mk) (fun s => obsTG n (fn.take i) ex mk (g s)) M loose w) (h2 : HandSHeadRun.RunEq r q (hookT n (fn.drop i) (fun _ => true) mk) (fun s => obsTG n (fn.drop i) (fun _ => true) mk (g s)) M loose w) :
    HandSHeadRun.RunEq r q (hookT2 n i fn ex mk) (fun s => (obsTG n (fn.take i) ex mk (g s), obsTG n (fn.drop i) (fun _ => true) mk (g s))) M loose w := by
  intro os
  have a := h1 os
  have b := h2 os
  revert a b
  generalize HandSHeadRun.endF _ _ _ _ _ = o
  intro a b
  cases o with
  | none => cases a
  | some s =>
    have a' := Option.some.inj a
    have b' := Option.some.inj b
    have a1 := congrArg (fun z : Bool × _ × AlP => z.1) a'
    have a2 := congrArg (fun z : Bool × _ × AlP => z.2.1) a'
    have a3 := congrArg (fun z : Bool × _ × AlP => z.2.2) a'
    have b3 := congrArg (fun z : Bool × _ × AlP => z.2.2) b'
    exact congrArg some (Prod.ext a1 (Prod.ext a2 (Prod.ext a3 b3)))
end Ps

/-! The head's defs in many parts, a run for each. -/
namespace Ps
open PySem PySem.Spec PyProof.Rows PySem.W L2 He LamX

abbrev Part := (Frag → Bool) × List DefP
abbrev exTrue : Frag → Bool := fun _ => true
def allEx (ps : List Part) (K : Frag) : Bool := ps.all fun p => p.1 K
def allFn (ps : List Part) : List DefP := (ps.map (·.2)).flatten
theorem SaysP.of {fn : List DefP} {ex : Frag → Bool} {K : Frag} (h1 : ex K = true) (h2 : (fn.all fun d => d.ok K) = true) (h3 : (fn.map fun d => fnP K (d.at_.a K)) = fn.map DefP.val) : SaysP fn ex K := by
  show obsP fn ex K = valP fn
  unfold obsP valP
  rw [h1, h2, h3]
  rfl
theorem SaysP.parts {fn : List DefP} {ex : Frag → Bool} {K : Frag} (h : SaysP fn ex K) : ex K = true ∧ (fn.all fun d => d.ok K) = true ∧ (fn.map fun d => fnP K (d.at_.a K)) = fn.map DefP.val := by
  have a1 : (ex K && fn.all fun d => d.ok K) = true := congrArg (fun z : AlP => z.1) h
  have a2 : (fn.map fun d => fnP K (d.at_.a K)) = fn.map DefP.val := congrArg (fun z : AlP => z.2) h
  obtain ⟨c1, c2⟩ := ba a1
  exact ⟨c1, c2, a2⟩
theorem says_all {K : Frag} : ∀ {ps : List Part}, (∀ p ∈ ps, SaysP p.2 p.1 K) → SaysP (allFn ps) (allEx ps) K
  | [], _ => .of rfl rfl rfl
  | p :: r, h => by
    obtain ⟨a1, a2, a3⟩ := (h p (List.mem_cons_self ..)).parts
    obtain ⟨b1, b2, b3⟩ := (says_all fun q hq => h q (List.mem_cons_of_mem _ hq)).parts
    refine .of ?_ ?_ ?_
    · show (p.1 K && allEx r K) = true
      rw [a1, b1]
      rfl
    · show ((p.2 ++ allFn r).all fun d => d.ok K) = true
      rw [List.all_append, a2, b2]
      rfl
    · show (p.2 ++ allFn r).map _ = (p.2 ++ allFn r).map DefP.val
      rw [List.map_append, List.map_append, a3, b3]
theorem obsM_part {fn : List DefP} {ex : Frag → Bool} {mk : List (At × Str)} {K0 : Frag} (e : obsM fn ex mk K0 = valP fn) : mkB mk K0 (dropR ((tabsOf mk K0).map (·.2)) [] K0 fun x => x) = true ∧ SaysP fn ex (dropR ((tabsOf mk K0).map (·.2)) [] K0 fun x => x) := by
  unfold obsM at e
  rw [dropR_k] at e
  generalize dropR ((tabsOf mk K0).map (·.2)) [] K0 (fun x => x) = K at e ⊢
  have a1 : (mkB mk K0 K && (ex K && fn.all fun d => d.ok K)) = true := congrArg (fun z : AlP => z.1) e
  have a2 : (fn.map fun d => fnP K (d.at_.a K)) = fn.map DefP.val := congrArg (fun z : AlP => z.2) e
  obtain ⟨c1, c2⟩ := ba a1
  obtain ⟨c3, c4⟩ := ba c2
  exact ⟨c1, .of c3 c4 a2⟩
theorem tabs_of {mk : List (At × Str)} {K0 K : Frag} {h : Heap} (X : GoodM h.get? K0) (XK : K.In h) (c1 : mkB mk K0 K = true) : TabsH mk K h := by
  obtain ⟨t1, t2⟩ := ba c1
  obtain ⟨t3, t4⟩ := ba t2
  have at_ : ∀ p ∈ tabsOf mk K, isTab (K0.lookup p.2) = true ∧ codeHdIn K p.1 p.2 = true ∧ (K.lookup p.2).isNone = true := fun p hp => by
    obtain ⟨a1, a2⟩ := ba (List.all_eq_true.mp t1 p hp)
    exact ⟨a1, ba a2⟩
  exact ⟨fun p hp => X.in_ _ _ (isTab_ok (at_ p hp).1), fun p hp => Option.isNone_iff_eq_none.mp (at_ p hp).2.2, fun p hp => codeHd_of_K XK (at_ p hp).2.1, fun m hm => by
    obtain ⟨q, hq⟩ := Option.isSome_iff_exists.mp (List.all_eq_true.mp t3 m hm)
    exact ⟨q.1, q.2, hq⟩, t4⟩
def obL (n : Nat) (ps : List Part) (mk : List (At × Str)) (g : Addr → Option Obj) : List AlP := ps.map fun p => obsTG n p.2 p.1 mk g
theorem obL_all {n : Nat} {mk : List (At × Str)} {g : Addr → Option Obj} : ∀ {ps : List Part}, obL n ps mk g = ps.map (fun p => valP p.2) → ∀ p ∈ ps, obsTG n p.2 p.1 mk g = valP p.2
  | [], _, p, hp => by cases hp
  | q :: r, e, p, hp => by
    have e1 : obsTG n q.2 q.1 mk g = valP q.2 := (List.cons.inj e).1
    have e2 : obL n r mk g = r.map (fun p => valP p.2) := (List.cons.inj e).2
    rcases List.mem_cons.mp hp with z | z
    · rw [z]; exact e1
    · exact obL_all e2 p z
def hookTL (n : Nat) (ps : List Part) (hps : ps ≠ []) (mk : List (At × Str)) : Hook where
  α := List AlP
  obs := fun s => obL n ps mk s.heap.get?
  val := fun _ => ps.map fun p => valP p.2
  says := fun _ h => ∃ K : Frag, K.In h ∧ SaysP (allFn ps) (allEx ps) K ∧ TabsH mk K h
  of := fun _ s e => by
    have all := obL_all e
    have X : GoodM s.heap.get? (outQ s.heap.get? (fun x => x) n [mainGlobals] 0 (frG s.heap.get? [cStatics])) := outQ_okM (g := s.heap.get?) (Φ := fun z => GoodM s.heap.get? z) (k := fun x => x) (fun acc q => q) n _ 0 _ (goodM_nil _)
    generalize hK0 : outQ s.heap.get? (fun x => x) n [mainGlobals] 0 (frG s.heap.get? [cStatics]) = K0 at X
    have part : ∀ p ∈ ps, mkB mk K0 (dropR ((tabsOf mk K0).map (·.2)) [] K0 fun x => x) = true ∧ SaysP p.2 p.1 (dropR ((tabsOf mk K0).map (·.2)) [] K0 fun x => x) := fun p hp => by
      have e1 := all p hp
      unfold obsTG at e1
      rw [outQ_k, hK0] at e1
      exact obsM_part e1
    have XK : (dropR ((tabsOf mk K0).map (·.2)) [] K0 fun x => x).In s.heap := by
      obtain ⟨K', q, m⟩ := dropR_eq ((tabsOf mk K0).map (·.2)) K0 [] fun x : Frag => x
      rw [q]
      exact GoodM.in_ fun p hp => (m p hp).elim (fun z => by cases z) (X p)
    generalize (dropR ((tabsOf mk K0).map (·.2)) [] K0 fun x => x) = K at part XK
    obtain ⟨p0, hp0⟩ := List.exists_mem_of_ne_nil ps hps
    exact ⟨K, XK, says_all fun p hp => (part p hp).2, tabs_of X XK (part p0 hp0).1⟩
  keeps := fun _ _ _ ⟨K, hK, c, t⟩ k => ⟨K, Frag.In.keeps hK k, c, t.keeps k⟩
theorem obL_eq {n : Nat} {ps : List Part} {hps : ps ≠ []} {mk : List (At × Str)} {g : Addr → Option Obj} {s : Shared} (h : ∀ a, g a = s.heap.get? a) : obL n ps mk g = (hookTL n ps hps mk).obs s := by
  have e : g = s.heap.get? := funext h
  rw [e] <;> rfl
section
variable {r : OpenRow} {q : Program} {n M : Nat} {ps : List Part} {p : Part} {mk : List (At × Str)} {loose : List PySem.Str} {w : World} {g : SharedT → Addr → Option Obj}
theorem runL_one (h1 : HandSHeadRun.RunEq r q (hookT n p.2 p.1 mk) (fun s => obsTG n p.2 p.1 mk (g s)) M loose w) : HandSHeadRun.RunEq r q (hookTL n [p] (by simp) mk) (fun s => obL n [p] mk (g s)) M loose w := by
  intro os
  have a := h1 os
  revert a
  generalize HandSHeadRun.endF _ _ _ _ _ = o
  intro a
  cases o with
  | none => cases a
  | some s =>
    have a' := Option.some.inj a
    have a1 := congrArg (fun z : Bool × _ × AlP => z.1) a'
    have a2 := congrArg (fun z : Bool × _ × AlP => z.2.1) a'
    have a3 := congrArg (fun z : Bool × _ × AlP => z.2.2) a'
    exact congrArg some (Prod.ext a1 (Prod.ext a2 (congrArg (fun z => [z]) a3)))
theorem runL_cons {hps : ps ≠ []} (h1 : HandSHeadRun.RunEq r q (hookT n p.2 p.1 mk) (fun s => obsTG n p.2 p.1 mk (g s)) M loose w) (h2 : HandSHeadRun.RunEq r q (hookTL n ps hps mk) (fun s => obL n ps mk (g s)) M loose w) :
    HandSHeadRun.RunEq r q (hookTL n (p :: ps) (by simp) mk) (fun s => obL n (p :: ps) mk (g s)) M loose w := by
  intro os
  have a := h1 os
  have b := h2 os
  revert a b
  generalize HandSHeadRun.endF _ _ _ _ _ = o
  intro a b
  cases o with
  | none => cases a
  | some s =>
    have a' := Option.some.inj a
    have b' := Option.some.inj b
    have a1 := congrArg (fun z : Bool × _ × AlP => z.1) a'
    have a2 := congrArg (fun z : Bool × _ × AlP => z.2.1) a'
    have a3 := congrArg (fun z : Bool × _ × AlP => z.2.2) a'
    have b3 := congrArg (fun z : Bool × _ × List AlP => z.2.2) b'
    exact congrArg some (Prod.ext a1 (Prod.ext a2 (List.cons_eq_cons.mpr ⟨a3, b3⟩)))
end
end Ps

/-! k60: the runs, early in the one file. -/
namespace Ps
open PySem PySem.Spec PyProof.Rows PySem.W L2 He

def fnAll : List DefP := [⟨.g "is_integer", "is_integer", "is_integer", s_is_integer, []⟩,
  ⟨.g "common", "common", "common", s_common, []⟩,
  ⟨.g "share_of_number", "share_of_number", "share_of_number", s_share_of_number, []⟩,
  ⟨.m "Share" "__init__", "__init__", "Share.__init__", s_Share_dd_init, [.int 1]⟩,
  ⟨.m "Book" "__init__", "__init__", "Book.__init__", s_Book_dd_init, []⟩,
  ⟨.m "BadMenu" "__init__", "__init__", "BadMenu.__init__", s_BadMenu_dd_init, []⟩,
  ⟨.m "Share" "__add__", "__add__", "Share.__add__", s_Share_dd_add, []⟩,
  ⟨.m "Share" "minus", "minus", "Share.minus", s_Share_minus, []⟩,
  ⟨.m "Share" "__gt__", "__gt__", "Share.__gt__", s_Share_dd_gt, []⟩,
  ⟨.m "Share" "__ge__", "__ge__", "Share.__ge__", s_Share_dd_ge, []⟩,
  ⟨.m "Share" "__eq__", "__eq__", "Share.__eq__", s_Share_dd_eq, []⟩,
  ⟨.g "is_number", "is_number", "is_number", s_is_number, []⟩,
  ⟨.g "is_above", "is_above", "is_above", s_is_above, []⟩,
  ⟨.g "is_after", "is_after", "is_after", s_is_after, []⟩,
  ⟨.g "is_setting", "is_setting", "is_setting", s_is_setting, []⟩,
  ⟨.g "as_kept", "as_kept", "as_kept", s_as_kept, []⟩,
  ⟨.m "Book" "__eq__", "__eq__", "Book.__eq__", s_Book_dd_eq, []⟩,
  ⟨.g "check_menu", "check_menu", "check_menu", s_check_menu, []⟩,
  ⟨.m "Menu" "__init__", "__init__", "Menu.__init__", s_Menu_dd_init, []⟩,
  ⟨.m "Menu" "__len__", "__len__", "Menu.__len__", s_Menu_dd_len, []⟩,
  ⟨.m "Menu" "__add__", "__add__", "Menu.__add__", s_Menu_dd_add, []⟩,
  ⟨.m "Menu" "__getitem__", "__getitem__", "Menu.__getitem__", s_Menu_dd_getitem, []⟩,
  ⟨.m "Menu" "__contains__", "__contains__", "Menu.__contains__", s_Menu_dd_contains, []⟩,
  ⟨.m "Menu" "__eq__", "__eq__", "Menu.__eq__", s_Menu_dd_eq, []⟩,
  ⟨.m "Menu" "books", "books", "Menu.books", s_Menu_books, []⟩,
  ⟨.g "_law_numbers", "_law_numbers", "_law_numbers", s_lw_numbers, []⟩,
  ⟨.g "_law_pool", "_law_pool", "_law_pool", s_lw_pool, []⟩,
  ⟨.g "_law_draw", "_law_draw", "_law_draw", s_lw_draw, []⟩,
  ⟨.g "_law_after", "_law_after", "_law_after", s_lw_after, []⟩,
  ⟨.g "_law_plan", "_law_plan", "_law_plan", s_lw_plan, []⟩,
  ⟨.g "_law_made_after", "_law_made_after", "_law_made_after", s_lw_made_after, []⟩,
  ⟨.g "_law_made_book", "_law_made_book", "_law_made_book", s_lw_made_book, []⟩,
  ⟨.g "_law_cell", "_law_cell", "_law_cell", s_lw_cell, []⟩,
  ⟨.g "_law_lowest", "_law_lowest", "_law_lowest", s_lw_lowest, []⟩,
  ⟨.g "_law_plans", "_law_plans", "_law_plans", s_lw_plans, []⟩,
  ⟨.g "_law_key", "_law_key", "_law_key", s_lw_key, []⟩,
  ⟨.g "_law_unlike", "_law_unlike", "_law_unlike", s_lw_unlike, []⟩,
  ⟨.g "_law_menu", "_law_menu", "_law_menu", s_lw_menu, []⟩,
  ⟨.g "_law_refused", "_law_refused", "_law_refused", s_lw_refused, []⟩,
  ⟨.g "_law_direct", "_law_direct", "_law_direct", s_lw_direct, []⟩,
  ⟨.g "law", "law", "law", s_lw_law, []⟩]
def exM (K : Frag) : Bool := neB K (ga K "Menu") && (rnoB K (ga K "Menu") "add" && (neB K (ga K "Book") && ((kitOne K (.ref (ga K "Book")) (.type "bool")).isSome && (kitsL K "Menu" ["list"] && kitsL K "Book" ["int", "NoneType", "dict"]))))
def exAll (K : Frag) : Bool := shB K && (bkB K && (mnB K && (numB K (ga K "Share") "add" && (excB K "BadMenu" "value" && (exmB K "BadMenu" "BadMenu" true && (exM K && freeB K ["list", "range", "int", "abs", "min", "max", "bool"]))))))
def mkAll : List (At × Str) := [(.g "law", "law.<locals>.<lambda>"), (.g "_law_direct", "_law_direct.<locals>.<lambda>")]
abbrev Rw : OpenRow := OpenLaw.row PySem.Challenge.rw_planswitches_k60_menu_keeps_its_books
abbrev pt0 : Part := (exAll, (fnAll.drop 0).take 25)
abbrev pt1 : Part := (exTrue, (fnAll.drop 25).take 25)
abbrev parts : List Part := [pt0, pt1]
theorem parts_says {K : Frag} (c : SaysP (allFn parts) (allEx parts) K) : SaysP fnAll exAll K := by
  have e1 : allFn parts = fnAll := by rfl
  have e2 : allEx parts K = exAll K := by
    show (exAll K && true) = exAll K
    exact Bool.and_true _
  obtain ⟨a1, a2, a3⟩ := c.parts
  rw [e1] at a2 a3
  rw [e2] at a1
  exact .of a1 a2 a3
abbrev hk : Hook := hookTL 6 parts (List.cons_ne_nil _ _) mkAll
def ob (s : SharedT) : List AlP := obL 6 parts mkAll (HandSHeadRun.getT s)
theorem ob_eq (s : SharedT) : ob s = hk.obs s.abs := obL_eq (HandSHeadRun.getT_eq s)
def loose : List PySem.Str := (["_wall", "__name__", "PlanError", "BadArgument", "BadPrice", "BadBook", "BadState", "BadMenu", "BadShare", "DividedByNothing", "BadKind", "is_integer", "common", "share_of_number", "is_number", "Share", "LETTERS", "MOST_LETTERS", "MOST_KINDS", "is_word"] : List PySem.Str) ++ (["is_pair", "shares_of", "are_kinds", "as_make", "Prices", "check_prices", "FIELDS", "MOST_TRIES", "MOST_LOOK", "EVER", "is_above", "is_after", "is_setting", "as_kept", "ascending", "Book", "MOST_BOOKS", "Menu", "check_menu", "_law_numbers"] : List PySem.Str) ++ (["_law_pool", "_law_draw", "_law_after", "_law_plan", "_law_made_after", "_law_made_book", "_law_cell", "_law_lowest", "_law_plans", "_law_key", "_law_unlike", "_law_menu", "_law_refused", "_law_direct"] : List PySem.Str)
theorem run_0 (w : World) : HandSHeadRun.RunEq Rw (view Rw.prog [59]) (hookT 6 pt0.2 pt0.1 mkAll) (fun s => obsTG 6 pt0.2 pt0.1 mkAll (HandSHeadRun.getT s)) 30000 loose w := by
  intro os
  kernel_rfl
theorem run_1 (w : World) : HandSHeadRun.RunEq Rw (view Rw.prog [59]) (hookT 6 pt1.2 pt1.1 mkAll) (fun s => obsTG 6 pt1.2 pt1.1 mkAll (HandSHeadRun.getT s)) 30000 loose w := by
  intro os
  kernel_rfl
theorem run (w : World) : HandSHeadRun.RunEq Rw (view Rw.prog [59]) hk ob 30000 loose w := by
  have h := runL_cons (r := Rw) (q := view Rw.prog [59]) (n := 6) (M := 30000) (mk := mkAll) (loose := loose) (w := w) (g := HandSHeadRun.getT) (p := pt0) (run_0 w) (runL_one (p := pt1) (run_1 w))
  exact h

end Ps

/-! Fractions in lowest terms, in plain Lean. -/
namespace Ps
def lowG (t u : Int) : Int := if u < 0 then -(Int.gcd t u : Int) else (Int.gcd t u : Int)
/-- what Share keeps of a top and an under -/
def low (t u : Int) : Int × Int := (t.fdiv (lowG t u), u.fdiv (lowG t u))
theorem gcd_pos {t u : Int} (hu : u ≠ 0) : 0 < Int.gcd t u := Int.gcd_pos_of_ne_zero_right t hu
theorem lowG_ne {t u : Int} (hu : u ≠ 0) : lowG t u ≠ 0 := by
  have h := gcd_pos (t := t) hu
  unfold lowG
  split <;> omega
theorem lowG_abs (t u : Int) : (lowG t u).natAbs = Int.gcd t u := by
  unfold lowG
  split <;> omega
theorem lowG_dvd_left (t u : Int) : lowG t u ∣ t := by
  have h : (Int.gcd t u : Int) ∣ t := Int.gcd_dvd_left ..
  unfold lowG
  split
  · exact Int.neg_dvd.mpr h
  · exact h
theorem lowG_dvd_right (t u : Int) : lowG t u ∣ u := by
  have h : (Int.gcd t u : Int) ∣ u := Int.gcd_dvd_right ..
  unfold lowG
  split
  · exact Int.neg_dvd.mpr h
  · exact h
theorem low_fst {t u : Int} (hu : u ≠ 0) : (low t u).1 * lowG t u = t := by
  obtain ⟨c, hc⟩ := lowG_dvd_left t u
  show t.fdiv (lowG t u) * lowG t u = t
  have : t.fdiv (lowG t u) = c := by
    rw [Int.fdiv_eq_of_eq_mul_right (lowG_ne hu) hc]
  rw [this, Int.mul_comm, ← hc]
theorem low_snd {t u : Int} (hu : u ≠ 0) : (low t u).2 * lowG t u = u := by
  obtain ⟨c, hc⟩ := lowG_dvd_right t u
  show u.fdiv (lowG t u) * lowG t u = u
  have : u.fdiv (lowG t u) = c := by
    rw [Int.fdiv_eq_of_eq_mul_right (lowG_ne hu) hc]
  rw [this, Int.mul_comm, ← hc]
theorem lowG_scale (k t u : Int) (hu : u ≠ 0) (hk : k ≠ 0) : lowG (k * t) (k * u) = k * lowG t u := by
  unfold lowG
  rw [Int.gcd_mul_left]
  have e : ((k.natAbs * Int.gcd t u : Nat) : Int) = (k.natAbs : Int) * (Int.gcd t u : Int) := by push_cast; rfl
  rw [e]
  rcases Int.lt_or_gt_of_ne hk with h | h
  · have ek : (k.natAbs : Int) = -k := by omega
    rw [ek]
    rcases Int.lt_or_gt_of_ne hu with h' | h'
    · have : 0 < k * u := Int.mul_pos_of_neg_of_neg h h'
      rw [if_neg (by omega), if_pos h', Int.neg_mul, Int.mul_neg]
    · have : k * u < 0 := Int.mul_neg_of_neg_of_pos h h'
      rw [if_pos this, if_neg (by omega), Int.neg_mul, Int.neg_neg]
  · have ek : (k.natAbs : Int) = k := by omega
    rw [ek]
    rcases Int.lt_or_gt_of_ne hu with h' | h'
    · have : k * u < 0 := Int.mul_neg_of_pos_of_neg h h'
      rw [if_pos this, if_pos h', Int.mul_neg]
    · have : 0 < k * u := Int.mul_pos h h'
      rw [if_neg (by omega), if_neg (by omega)]
/-- from an equation by products -/
theorem fdiv_of {a b c : Int} (hb : b ≠ 0) (h : a = c * b) : a.fdiv b = c := by
  rw [Int.fdiv_eq_of_eq_mul_right hb (by rw [h, Int.mul_comm])]
theorem low_scale (k t u : Int) (hu : u ≠ 0) (hk : k ≠ 0) : low (k * t) (k * u) = low t u := by
  have h1 := low_fst (t := t) hu
  have h2 := low_snd (t := t) hu
  have hg := lowG_ne (t := t) hu
  have hkg : k * lowG t u ≠ 0 := Int.mul_ne_zero hk hg
  unfold low
  rw [lowG_scale k t u hu hk]
  refine Prod.ext ?_ ?_
  · show (k * t).fdiv (k * lowG t u) = (low t u).1
    refine fdiv_of hkg ?_
    rw [show (low t u).1 * (k * lowG t u) = k * ((low t u).1 * lowG t u) by rw [Int.mul_left_comm], h1]
  · show (k * u).fdiv (k * lowG t u) = (low t u).2
    refine fdiv_of hkg ?_
    rw [show (low t u).2 * (k * lowG t u) = k * ((low t u).2 * lowG t u) by rw [Int.mul_left_comm], h2]
/-- the same fraction -/
theorem low_of {t u a b k : Int} (hb : b ≠ 0) (hk : k ≠ 0) (h1 : t = k * a) (h2 : u = k * b) : low t u = low a b := by
  rw [h1, h2, low_scale k a b hb hk]
theorem low_pos {t u : Int} (hu : u ≠ 0) : 0 < (low t u).2 := by
  have h2 := low_snd (t := t) hu
  have hg := gcd_pos (t := t) hu
  unfold lowG at h2
  rcases Int.lt_or_gt_of_ne hu with h | h
  · rw [if_pos h] at h2
    rcases Int.lt_trichotomy (low t u).2 0 with z | z | z
    · have := Int.mul_pos_of_neg_of_neg z (show -(Int.gcd t u : Int) < 0 by omega)
      omega
    · rw [z, Int.zero_mul] at h2; omega
    · exact z
  · rw [if_neg (by omega)] at h2
    rcases Int.lt_trichotomy (low t u).2 0 with z | z | z
    · have := Int.mul_neg_of_neg_of_pos z (show (0 : Int) < (Int.gcd t u : Int) by omega)
      omega
    · rw [z, Int.zero_mul] at h2; omega
    · exact z
theorem low_le1 {t u : Int} (hu : u ≠ 0) : (low t u).1.natAbs ≤ t.natAbs := by
  have h := congrArg Int.natAbs (low_fst (t := t) hu)
  rw [Int.natAbs_mul, lowG_abs] at h
  rw [← h]
  exact Nat.le_mul_of_pos_right _ (gcd_pos hu)
theorem low_le2 {t u : Int} (hu : u ≠ 0) : (low t u).2.natAbs ≤ u.natAbs := by
  have h := congrArg Int.natAbs (low_snd (t := t) hu)
  rw [Int.natAbs_mul, lowG_abs] at h
  rw [← h]
  exact Nat.le_mul_of_pos_right _ (gcd_pos hu)
theorem low_gcd {t u : Int} (hu : u ≠ 0) : Int.gcd (low t u).1 (low t u).2 = 1 := by
  have h1 := low_fst (t := t) hu
  have h2 := low_snd (t := t) hu
  have e : Int.gcd t u = Int.gcd (low t u).1 (low t u).2 * Int.gcd t u := by
    have := Int.gcd_mul_right (low t u).1 (lowG t u) (low t u).2
    rw [h1, h2, lowG_abs] at this
    exact this
  have hg := gcd_pos (t := t) hu
  have := Nat.eq_of_mul_eq_mul_right hg (show 1 * Int.gcd t u = Int.gcd (low t u).1 (low t u).2 * Int.gcd t u by rw [Nat.one_mul]; exact e)
  exact this.symm
theorem low_id {t u : Int} (hu : 0 < u) (hg : Int.gcd t u = 1) : low t u = (t, u) := by
  have e : lowG t u = 1 := by
    unfold lowG
    rw [if_neg (by omega), hg]; rfl
  unfold low
  rw [e, Int.fdiv_one, Int.fdiv_one]
theorem low_low {t u : Int} (hu : u ≠ 0) : low (low t u).1 (low t u).2 = low t u := by
  rw [low_id (low_pos hu) (low_gcd hu)]
theorem low_one (t : Int) : low t 1 = (t, 1) := low_id (by decide) (by simp)
/-! sums, products and quotients of fractions in lowest terms -/
theorem low_ex (t : Int) {u : Int} (hu : u ≠ 0) : ∃ a b g, low t u = (a, b) ∧ g ≠ 0 ∧ 0 < b ∧ t = a * g ∧ u = b * g :=
  ⟨(low t u).1, (low t u).2, lowG t u, rfl, lowG_ne hu, low_pos hu, (low_fst hu).symm, (low_snd hu).symm⟩
theorem low_add {t u c d : Int} (hu : u ≠ 0) (hd : d ≠ 0) : low ((low t u).1 * (low c d).2 + (low c d).1 * (low t u).2) ((low t u).2 * (low c d).2) = low (t * d + c * u) (u * d) := by
  obtain ⟨a, b, g, e1, hg, hb, rfl, rfl⟩ := low_ex t hu
  obtain ⟨p, q, h, e2, hh, hq, rfl, rfl⟩ := low_ex c hd
  rw [e1, e2]
  symm
  refine low_of (k := g * h) (Int.ne_of_gt (Int.mul_pos hb hq)) (Int.mul_ne_zero hg hh) ?_ ?_
  · show a * g * (q * h) + p * h * (b * g) = g * h * (a * q + p * b)
    grind
  · show b * g * (q * h) = g * h * (b * q)
    grind
theorem low_sub {t u c d : Int} (hu : u ≠ 0) (hd : d ≠ 0) : low ((low t u).1 * (low c d).2 + -(low c d).1 * (low t u).2) ((low t u).2 * (low c d).2) = low (t * d - c * u) (u * d) := by
  obtain ⟨a, b, g, e1, hg, hb, rfl, rfl⟩ := low_ex t hu
  obtain ⟨p, q, h, e2, hh, hq, rfl, rfl⟩ := low_ex c hd
  rw [e1, e2]
  symm
  refine low_of (k := g * h) (Int.ne_of_gt (Int.mul_pos hb hq)) (Int.mul_ne_zero hg hh) ?_ ?_
  · show a * g * (q * h) - p * h * (b * g) = g * h * (a * q + -p * b)
    grind
  · show b * g * (q * h) = g * h * (b * q)
    grind
theorem low_mul {t u c d : Int} (hu : u ≠ 0) (hd : d ≠ 0) : low ((low t u).1 * (low c d).1) ((low t u).2 * (low c d).2) = low (t * c) (u * d) := by
  obtain ⟨a, b, g, e1, hg, hb, rfl, rfl⟩ := low_ex t hu
  obtain ⟨p, q, h, e2, hh, hq, rfl, rfl⟩ := low_ex c hd
  rw [e1, e2]
  symm
  refine low_of (k := g * h) (Int.ne_of_gt (Int.mul_pos hb hq)) (Int.mul_ne_zero hg hh) ?_ ?_
  · show a * g * (p * h) = g * h * (a * p)
    grind
  · show b * g * (q * h) = g * h * (b * q)
    grind
theorem low_ne0 {t u : Int} (hu : u ≠ 0) : (low t u).1 = 0 ↔ t = 0 := by
  have h := low_fst (t := t) hu
  constructor
  · intro z
    rw [z, Int.zero_mul] at h
    exact h.symm
  · intro z
    rw [z] at h
    rcases Int.mul_eq_zero.mp h with y | y
    · rw [z]; exact y
    · exact absurd y (lowG_ne hu)
theorem low_by {t u c d : Int} (hu : u ≠ 0) (hd : d ≠ 0) (hc : c ≠ 0) : low ((low t u).1 * (low c d).2) ((low t u).2 * (low c d).1) = low (t * d) (u * c) := by
  have z : ¬ (low c d).1 = 0 := fun y => hc ((low_ne0 (t := c) hd).mp y)
  obtain ⟨a, b, g, e1, hg, hb, rfl, rfl⟩ := low_ex t hu
  obtain ⟨p, q, h, e2, hh, hq, rfl, rfl⟩ := low_ex c hd
  rw [e2] at z
  rw [e1, e2]
  symm
  refine low_of (k := g * h) (Int.mul_ne_zero (Int.ne_of_gt hb) z) (Int.mul_ne_zero hg hh) ?_ ?_
  · show a * g * (q * h) = g * h * (a * q)
    grind
  · show b * g * (p * h) = g * h * (b * p)
    grind
theorem low_neg {t u : Int} (hu : u ≠ 0) : low (-(low t u).1) (low t u).2 = low (-t) u := by
  obtain ⟨a, b, g, e1, hg, hb, rfl, rfl⟩ := low_ex t hu
  rw [e1]
  symm
  refine low_of (k := g) (Int.ne_of_gt hb) hg ?_ ?_
  · show -(a * g) = g * -a
    grind
  · show b * g = g * b
    grind
/-- a fraction in lowest terms, its sign turned -/
theorem low_neg_eq {t u : Int} (hu : u ≠ 0) : low (-t) u = (-(low t u).1, (low t u).2) := by
  rw [← low_neg hu]
  refine low_id (low_pos hu) ?_
  rw [Int.neg_gcd]
  exact low_gcd hu
def iabs (i : Int) : Int := if i < 0 then -i else i
theorem iabs_eq (i : Int) : iabs i = (i.natAbs : Int) := by unfold iabs; split <;> omega
theorem low_abs {t u : Int} (hu : u ≠ 0) : low (iabs (low t u).1) (low t u).2 = low (iabs t) (iabs u) := by
  obtain ⟨a, b, g, e1, hg, hb, rfl, rfl⟩ := low_ex t hu
  rw [e1, iabs_eq, iabs_eq, iabs_eq]
  symm
  refine low_of (k := g.natAbs) (Int.ne_of_gt hb) (by omega) ?_ ?_
  · show ((a * g).natAbs : Int) = g.natAbs * (a.natAbs : Int)
    rw [Int.natAbs_mul, Int.natCast_mul, Int.mul_comm]
  · show ((b * g).natAbs : Int) = g.natAbs * b
    rw [Int.natAbs_mul, Int.natCast_mul, Int.mul_comm, show (b.natAbs : Int) = b by omega]
theorem low_floor {t u : Int} (hu : u ≠ 0) : (low t u).1 / (low t u).2 = t.fdiv u := by
  obtain ⟨a, b, g, e1, hg, hb, rfl, rfl⟩ := low_ex t hu
  rw [e1]
  show a / b = (a * g).fdiv (b * g)
  rcases Int.lt_or_gt_of_ne hg with h | h
  · rw [show a * g = -(a * -g) by grind, show b * g = -(b * -g) by grind, Int.neg_fdiv_neg, Int.fdiv_eq_ediv_of_nonneg _ (Int.le_of_lt (Int.mul_pos hb (by omega))), Int.mul_ediv_mul_of_pos_left _ _ (by omega)]
  · rw [Int.fdiv_eq_ediv_of_nonneg _ (Int.le_of_lt (Int.mul_pos hb h)), Int.mul_ediv_mul_of_pos_left _ _ h]
theorem gcd_step {x y : Int} (hx : 0 ≤ x) (hy : 0 ≤ y) : Int.gcd y (x % y) = Int.gcd x y := by
  obtain ⟨m, rfl⟩ := Int.eq_ofNat_of_zero_le hx
  obtain ⟨n, rfl⟩ := Int.eq_ofNat_of_zero_le hy
  rw [← Int.natCast_emod, Int.gcd_natCast_natCast, Int.gcd_natCast_natCast, Nat.gcd_comm n, ← Nat.gcd_rec, Nat.gcd_comm]
end Ps

/-! Shares: the promises of the defs of shares.py where nothing is raised. -/
namespace Ps
open PySem PySem.Spec PyProof.Rows PySem.W L2

/-! ### floor division by any divisor but 0, below 2 ^ 9000 -/
def CDivG (_ j : Int) : Prop := j ≠ 0 ∧ j.natAbs.log2 < 9000
theorem op_fdivG {X : Cx} : OpR X (binaryOp .FloorDiv) (rI CDivG fun i j => .int (i.fdiv j)) := opI fun i j _ _ _ _ _ hc q => floordiv_int hc.1 q (.inl (PyProof.noPylong_of_log2 hc.2))
theorem divG {i j : Int} {b : Nat} (h : j ≠ 0) (hb : j.natAbs < 2 ^ b) (h0 : 0 < b) (h9 : b ≤ 9000) : CDivG i j := ⟨h, Nat.lt_of_lt_of_le (PySem.Flt.log2_lt_of h0 hb) h9⟩

/-- the name of a built-in class -/
theorem pe_ty {X : Cx} {x : Str} {pos : Pos} (T : String) (hg : Gl X x) (hm : X.mg x = none) (hv : bootBuiltins x = some (.type T)) (hn : x ≠ "__name__" := by decide) (hd : (x == ("__debug__" : Str)) = false := by decide) : PE X (.Name x pos) (tC (.ty T)) := pe_bltn hg hm hv rfl hn hd

/-! ### the data -/
def shF (t u : Int) : List (Str × V) := [("own_top", .int t), ("own_under", .int u)]
/-- v is a share t / u -/
def Sh (C : Addr) (H : Hp) (v : V) (q : Int × Int) : Prop := ∃ a dx, v = .ref a ∧ H a = some (.ins C dx (shF q.1 q.2))
theorem Sh.mono {C : Addr} {H H' : Hp} {v : V} {q : Int × Int} (e : Same H H') (h : Sh C H v q) : Sh C H' v q := by
  obtain ⟨a, dx, hv, h⟩ := h
  exact ⟨a, dx, hv, e _ _ h⟩
theorem Sh.ins {C : Addr} {H : Hp} {v : V} {q : Int × Int} (h : Sh C H v q) : InsC C H v := by
  obtain ⟨a, dx, hv, h⟩ := h
  exact ⟨a, dx, _, hv, h⟩
theorem shF_top (t u : Int) : (shF t u).lookup ("own_top" : Str) = some (.int t) := rfl
theorem shF_under (t u : Int) : (shF t u).lookup ("own_under" : Str) = some (.int u) := by
  unfold shF
  rw [List.lookup_cons]
  rfl

/-- a number: a share or an int -/
def Nb (C : Addr) (H : Hp) (v : V) (q : Int × Int) : Prop := Sh C H v q ∨ ∃ i, v = .int i ∧ q = (i, 1)
theorem Nb.mono {C : Addr} {H H' : Hp} {v : V} {q : Int × Int} (e : Same H H') (h : Nb C H v q) : Nb C H' v q := by
  rcases h with h | h
  · exact .inl (h.mono e)
  · exact .inr h
theorem Nb.num {C : Addr} {H : Hp} {v : V} {q : Int × Int} (h : Nb C H v q) : InsC C H v ∨ ∃ i, v = .int i := by
  rcases h with h | ⟨i, h, _⟩
  · exact .inl h.ins
  · exact .inr ⟨i, h⟩
/-- sizes: both parts below 2 ^ n, the under not 0 -/
structure Sz (n : Nat) (q : Int × Int) : Prop where
  ne : q.2 ≠ 0
  t : q.1.natAbs < 2 ^ n
  u : q.2.natAbs < 2 ^ n

/-- what stands at the top of the text, as far as shares go -/
structure ShT (Z : Cz) (C : Addr) : Prop where
  cl : Cls Z.K C
  nT : NoAttr Z.K C "own_top"
  nU : NoAttr Z.K C "own_under"
  mgC : Z.mg "Share" = some (.ref C)
  isi : Z.mg "isinstance" = none
  int : Z.mg "int" = none
  bool : Z.mg "bool" = none
  abs : Z.mg "abs" = none
  ha : findIn Z.K (.ref C) "__class__" = some (some (.builtin "object.__class__"))
  hn : specialIn Z.K (.builtin "object.__class__") "__get__" = some (some (.builtin "getset_descriptor.__get__"))
  htk : takesIn Z.K (.builtin "object.__class__") = some true
  hm : mroIn Z.K C (.type "object") = some true
  kCC : kitOne Z.K (.ref C) (.ref C) = some true
  kCI : kitOne Z.K (.ref C) (.type "int") = some false
  kIC : kitOne Z.K (.type "int") (.ref C) = some false
  kTC : ∀ t ∈ ([.type "bool", .type "str", .type "NoneType", .type "list", .type "tuple", .type "dict"] : List Value), kitOne Z.K t (.ref C) = some false
theorem ShT.ty {Z : Cz} {C : Addr} (T : ShT Z C) {H : Hp} {a dx : Addr} {fs : List (Str × V)} (h : H a = some (.ins C dx fs)) : TyX Z.K H (.ref a) (.ref C) := .base (.ins h T.cl T.ha T.hn T.htk T.hm)

section
variable {Z : Cz}

/-- is_integer -/
def spIsInt (K : Frag) : Sp := fun vs H Q _ => ∃ v t, vs = [v] ∧ TyX K H v t ∧ ((t = .type "int" ∧ Q (.bl true) H) ∨ (t = .type "bool" ∧ Q (.bl false) H) ∨ (kitOne K t (.type "int") = some false ∧ Q (.bl false) H))
theorem ok_is_integer {f C : Addr} {fd : FuncData} (F : Fun Z.K "is_integer" "is_integer" s_is_integer f fd) (T : ShT Z C) : Z.ok CX0 1 f fd ["value"] (spIsInt Z.K) := by
  refine F.ok sc_is_integer (fun vs H Q E h => ?_) (fun cdv A outer s H vs Q E hr h => ?_)
  · obtain ⟨v, t, rfl, _⟩ := h
    rfl
  · obtain ⟨v, t, rfl, ty, h⟩ := h
    refine ⟨_, pss_one (ps_ret (pe_and (pe_callB call_isi (by rfl) T.isi (by decide +kernel) (pa_cons (pv 0) (pa_cons (pe_ty "int" (by rfl) T.int (by decide +kernel)) pa_nil)))
      (pe_one (pe_not (pe_callB call_isi (by rfl) T.isi (by decide +kernel) (pa_cons (pv 0) (pa_cons (pe_ty "bool" (by rfl) T.bool (by decide +kernel)) pa_nil))))))), ?_⟩
    rcases h with ⟨rfl, q⟩ | ⟨rfl, q⟩ | ⟨e, q⟩
    · refine ⟨_, rfl, _, _, _, _, true, rfl, .ty "int", ty, kit_ty (by decide +kernel), _, rfl, iteT ?_⟩
      exact ⟨_, rfl, _, _, _, _, false, rfl, .ty "bool", ty, kit_ty (by decide +kernel), _, rfl, q⟩
    · refine ⟨_, rfl, _, _, _, _, true, rfl, .ty "int", ty, kit_ty (by decide +kernel), _, rfl, iteT ?_⟩
      exact ⟨_, rfl, _, _, _, _, true, rfl, .ty "bool", ty, kit_ty (by decide +kernel), _, rfl, q⟩
    · exact ⟨_, rfl, _, _, _, _, false, rfl, .ty "int", ty, e, _, rfl, iteF q⟩

/-- common: the greatest common divisor -/
def spCommon : Sp := fun vs H Q _ => ∃ a b : Int, vs = [.int a, .int b] ∧ Q (.int (Int.gcd a b)) H
theorem ok_common {f C : Addr} {fd : FuncData} (F : Fun Z.K "common" "common" s_common f fd) (T : ShT Z C) : Z.ok CX0 1 f fd ["one", "other"] spCommon := by
  refine F.ok sc_common (fun vs H Q E h => ?_) (fun cdv A outer s H vs Q E hr h => ?_)
  · obtain ⟨a, b, rfl, _⟩ := h
    rfl
  · obtain ⟨a, b, rfl, h⟩ := h
    refine ⟨_, pss_cons (ps_set (i := 0) sc_common.nd rfl (Or.inl rfl) (pe_callB call_abs (by rfl) T.abs (by decide +kernel) (pa_cons (pv 0) pa_nil)))
      (pss_cons (ps_set (i := 1) sc_common.nd rfl (Or.inl rfl) (pe_callB call_abs (by rfl) T.abs (by decide +kernel) (pa_cons (pv 1) pa_nil)))
      (pss_cons (ps_while PassesOwn.never (pt_cmpR op_ne (pv 1) pe_int (nomark _)) (pss_one (ps_par (i := 0) (j := 1) (by rfl) sc_common.nd rfl rfl (by decide) rfl rfl (pa_cons (pv 1) (pa_cons (pe_op op_mod (pv 0) (pv 1)) pa_nil)) (by rfl))))
      (pss_one (ps_ret (pv 0))))), ?_⟩
    refine ⟨_, rfl, _, rfl, _, rfl, _, rfl, ?_⟩
    refine while_by (fun σ H' => ∃ x y : Int, σ = [some (.int x), some (.int y)] ∧ H' = H ∧ 0 ≤ x ∧ 0 ≤ y ∧ Int.gcd x y = Int.gcd a b) (fun σ _ => match σ with | [_, some (.int y)] => y.toNat | _ => 0)
      ⟨_, _, rfl, rfl, ?_, ?_, ?_⟩ (fun σ H1 z => ?_) (fun σ H1 Q Q' m z => ?_)
    · split <;> omega
    · split <;> omega
    · rw [show (if a < 0 then -a else a) = ((a.natAbs : Nat) : Int) by split <;> omega, show (if b < 0 then -b else b) = ((b.natAbs : Nat) : Int) by split <;> omega]
      rfl
    · obtain ⟨x, y, rfl, rfl, hx, hy, e⟩ := z
      refine ⟨_, rfl, rfl, _, rfl, ?_⟩
      by_cases hy0 : y = 0
      · subst hy0
        refine iteNS rfl ?_
        refine ⟨_, rfl, ?_⟩
        have e2 : Int.gcd x 0 = x.natAbs := Int.gcd_zero_right ..
        rw [e2] at e
        rw [← e] at h
        have e3 : ((x.natAbs : Nat) : Int) = x := by omega
        rw [e3] at h
        exact h
      · rw [decide_eq_false (show ¬ V.int y = V.int 0 from fun z => hy0 (V.int.inj z))]
        refine iteT ?_
        refine ⟨_, rfl, _, rfl, _, rfl, _, _, rfl, rfl, (by show (0 : Int) < y; omega), _, _, rfl, ?_⟩
        have h1 := Int.emod_nonneg x hy0
        have h2 := Int.emod_lt_of_pos x (show 0 < y by omega)
        refine ⟨⟨_, _, rfl, rfl, hy, h1, ?_⟩, ?_⟩
        · rw [← e]
          exact gcd_step hx hy
        · show (x % y).toNat < y.toNat
          omega
    · obtain ⟨v, hv, z1, k, hk, z2⟩ := z
      exact ⟨v, hv, z1, k, hk, m _ _ z2⟩

/-- Share.__init__ -/
def spShInit (C : Addr) : Sp := fun vs H Q _ => ∃ (p dx : Addr) (t u : Int), vs = [.ref p, .int t, .int u] ∧ H p = some (.ins C dx []) ∧ u ≠ 0 ∧ u.natAbs < 2 ^ 9000 ∧
  ∀ H' : Hp, (∀ b, b ≠ p → H' b = H b) → H' p = some (.ins C dx (shF (low t u).1 (low t u).2)) → Q .non H'
theorem ok_ShInit {f C : Addr} {fd : FuncData} (F : FunD Z.K "__init__" "Share.__init__" (defArgs s_Share_dd_init) (defBody s_Share_dd_init) (defScope s_Share_dd_init) [.int 1] [] f fd) (T : ShT Z C)
    (c1 : Cal Z CX0 1 "is_integer" ["value"] [] (spIsInt Z.K)) (c2 : Cal Z CX0 1 "common" ["one", "other"] [] spCommon) :
    Z.ok CX0 2 f fd ["self", "top", "under"] (spShInit C) := by
  refine F.ok sc_Share_dd_init (fun vs H Q E h => ?_) (fun cdv A outer s H vs Q E hr h => ?_)
  · obtain ⟨p, dx, t, u, rfl, _⟩ := h
    rfl
  · obtain ⟨p, dx, t, u, rfl, hp, hu, hb, k⟩ := h
    have nd := sc_Share_dd_init.nd
    refine ⟨_, pss_cons (ps_if (PW.pt (pw_or (pt_not (pt_val (pe_cal c1 hr (by rfl) pass0 (pa_cons (pv 1) pa_nil)))) (pw_or (pt_not (pt_val (pe_cal c1 hr (by rfl) pass0 (pa_cons (pv 2) pa_nil)))) (pw_or1 (pt_cmpR op_eq (pv 2) pe_int (nomark _)))))) (pss_one ps_never) pss_nil)
      (pss_cons (ps_set (i := 3) nd rfl (Or.inl rfl) (pe_cal c2 hr (by rfl) pass0 (pa_cons (pv 1) (pa_cons (pv 2) pa_nil))))
      (pss_cons (ps_if (pt_cmpR op_lt (pv 2) pe_int (nomark _)) (pss_one (ps_set (i := 3) nd rfl (Or.inl rfl) (pe_un un_neg (pv 3)))) pss_nil)
      (pss_cons (ps_fld (pv 0) (pe_op op_fdivG (pv 1) (pv 3)) rfl)
      (pss_one (ps_fld (pv 0) (pe_op op_fdivG (pv 2) (pv 3)) rfl))))), ?_⟩
    refine ⟨_, rfl, _, _, rfl, .base (.int _), .inl ⟨rfl, _, rfl, iteF ?_⟩⟩
    refine ⟨_, rfl, _, _, rfl, .base (.int _), .inl ⟨rfl, _, rfl, iteF ?_⟩⟩
    refine ⟨_, rfl, rfl, _, rfl, ?_⟩
    rw [decide_eq_false (show ¬ V.int u = V.int 0 from fun z => hu (V.int.inj z))]
    refine iteF ?_
    refine ⟨_, rfl, _, rfl, _, _, rfl, ?_⟩
    have fin : ∀ (H1 : Hp) (σ : L2.St), H1 = H → σ = [some (.ref p), some (.int t), some (.int u), some (.int (lowG t u))] → (tSeq (sFld Z.K (tVar 0) (tOp (rI CDivG fun i j => .int (i.fdiv j)) (tVar 1) (tVar 3)) "own_top") (sFld Z.K (tVar 0) (tOp (rI CDivG fun i j => .int (i.fdiv j)) (tVar 2) (tVar 3)) "own_under")) { nx := fun _ H' => Q .non H', rt := Q } σ H1 := by
      rintro H1 σ rfl rfl
      have hG : CDivG t (lowG t u) := divG (b := 9000) (lowG_ne hu) (Nat.lt_of_le_of_lt (by rw [lowG_abs]; exact Int.gcd_le_natAbs_right _ hu) hb) (by decide) (Nat.le_refl _)
      refine ⟨_, rfl, _, rfl, _, _, rfl, rfl, hG, _, rfl, p, C, dx, _, rfl, hp, T.cl, T.nT, (by show 0 < 1000; decide), ?_⟩
      refine ⟨_, rfl, _, rfl, _, _, rfl, rfl, hG, _, rfl, p, C, dx, _, rfl, upd_same, T.cl, T.nU, (by show 1 < 1000; decide), ?_⟩
      refine k _ (fun b hb => by rw [upd_ne hb, upd_ne hb]) ?_
      rw [upd_same]
      rfl
    refine ⟨_, rfl, _, _, rfl, rfl, _, rfl, ?_⟩
    by_cases h0 : u < 0
    · rw [decide_eq_true h0]
      refine iteT ?_
      refine ⟨_, rfl, _, rfl, ?_⟩
      refine fin _ _ rfl ?_
      unfold lowG
      rw [if_pos h0]
      rfl
    · rw [decide_eq_false h0]
      refine iteF ?_
      refine fin _ _ rfl ?_
      unfold lowG
      rw [if_neg h0]
      rfl
end
end Ps

/-! Shares: their operators, where nothing is raised. -/
namespace Ps
open PySem PySem.Spec PyProof.Rows PySem.W L2

theorem Same.upd {H : Hp} {p : Addr} {o : HO} (h : H p = none) : Same H (L2.upd H p o) := fun b u e => by
  rw [upd_ne (ne_of_none e h)]
  exact e
/-- Share(t, u): what its reading asks -/
theorem mk_sh {C : Addr} {H : Hp} {Q : VK} {E : XK} {t u : Int} (hu : u ≠ 0) (hb : u.natAbs < 2 ^ 9000) (k : ∀ v H', Same H H' → Sh C H' v (low t u) → Q v H') :
    ∀ x dx, H x = none → H dx = none → dx ≠ x → spShInit C [.ref x, .int t, .int u] (upd (upd H dx (.own x)) x (.ins C dx [])) (fun v H2 => v = .non ∧ Q (.ref x) H2) E := by
  intro x dx hx hdx hne
  refine ⟨x, dx, t, u, rfl, upd_same, hu, hb, fun H' h1 h2 => ⟨rfl, ?_⟩⟩
  refine k _ H' (fun b o e => ?_) ⟨x, dx, rfl, h2⟩
  rw [h1 b (ne_of_none e hx), upd_ne (ne_of_none e hx), upd_ne (ne_of_none e hdx)]
  exact e

/-- what the shares' defs promise one another -/
abbrev CShare (Z : Cz) (C : Addr) : Prop := CalC Z CX0 2 C "Share" ["self", "top", "under"] [] (spShInit C)
abbrev CShare1 (Z : Cz) (C : Addr) : Prop := CalC Z CX0 2 C "Share" ["self", "top", "under"] [.int 1] (spShInit C)
/-- from a number a share -/
def spNum (C : Addr) : Sp := fun vs H Q _ => ∃ v q, vs = [v] ∧ Nb C H v q ∧ ∀ v' H', Same H H' → Sh C H' v' q → Q v' H'
abbrev CNum (Z : Cz) (C : Addr) : Prop := Cal Z CX0 4 "share_of_number" ["value"] [] (spNum C)
/-- two numbers to a share -/
def spBin (C : Addr) (n : Nat) (g : Int × Int → Int × Int → Int × Int) : Sp := fun vs H Q _ => ∃ x y q r, vs = [x, y] ∧ Sh C H x q ∧ Nb C H y r ∧ Sz n q ∧ Sz n r ∧ ∀ v H', Same H H' → Sh C H' v (g q r) → Q v H'
def spUn (C : Addr) (n : Nat) (g : Int × Int → Int × Int) : Sp := fun vs H Q _ => ∃ x q, vs = [x] ∧ Sh C H x q ∧ Sz n q ∧ ∀ v H', Same H H' → Sh C H' v (g q) → Q v H'
def gAdd (q r : Int × Int) : Int × Int := low (q.1 * r.2 + r.1 * q.2) (q.2 * r.2)
def gMul (q r : Int × Int) : Int × Int := low (q.1 * r.1) (q.2 * r.2)
def gNeg (q : Int × Int) : Int × Int := low (-q.1) q.2
def gAbs (q : Int × Int) : Int × Int := low (iabs q.1) q.2

theorem lt_mul {i j : Int} (hi : i.natAbs < 2 ^ 4000) (hj : j.natAbs < 2 ^ 4000) : CMulW i j := wide_mul hi hj (by decide) (by decide) (by decide)
theorem mul_lt {i j : Int} (hi : i.natAbs < 2 ^ 4000) (hj : j.natAbs < 2 ^ 4000) : (i * j).natAbs < 2 ^ 9000 :=
  Nat.lt_of_lt_of_le (wide_lt hi hj) (Nat.pow_le_pow_right (by decide) (by decide))
theorem lt_up {i : Int} {m n : Nat} (h : i.natAbs < 2 ^ m) (hm : m ≤ n) : i.natAbs < 2 ^ n := Nat.lt_of_lt_of_le h (Nat.pow_le_pow_right (by decide) hm)

section
variable {Z : Cz} {f C : Addr} {fd : FuncData}
theorem ok_share_of_number (F : Fun Z.K "share_of_number" "share_of_number" s_share_of_number f fd) (T : ShT Z C) (c1 : Cal Z CX0 1 "is_integer" ["value"] [] (spIsInt Z.K)) (c2 : CShare1 Z C) : Z.ok CX0 4 f fd ["value"] (spNum C) := by
  refine F.ok sc_share_of_number (fun vs H Q E h => ?_) (fun cdv A outer s H vs Q E hr h => ?_)
  · obtain ⟨v, q, rfl, _⟩ := h
    rfl
  · obtain ⟨v, q, rfl, hv, k⟩ := h
    refine ⟨_, pss_cons (ps_if (pt_val (pe_callB call_isi (by rfl) T.isi (by decide +kernel) (pa_cons (pv 0) (pa_cons (pe_glob (v := .ref C) rfl T.mgC rfl) pa_nil)))) (pss_one (ps_ret (pv 0))) pss_nil)
      (pss_cons (ps_if (pt_not (pt_val (pe_cal c1 (hr.mono (by decide)) (by rfl) pass0 (pa_cons (pv 0) pa_nil)))) (pss_one ps_never) pss_nil)
      (pss_one (ps_ret (pe_calC c2 hr (by rfl) pass0 (pa_cons (pv 0) pa_nil))))), ?_⟩
    rcases hv with hv | ⟨i, rfl, rfl⟩
    · obtain ⟨a, dx, rfl, ha⟩ := id hv
      refine ⟨_, rfl, _, _, _, _, true, rfl, .own C, T.ty ha, T.kCC, _, rfl, iteT ?_⟩
      exact ⟨_, rfl, k _ _ (Same.refl _) hv⟩
    · refine ⟨_, rfl, _, _, _, _, false, rfl, .own C, .base (.int _), T.kIC, _, rfl, iteF ?_⟩
      refine ⟨_, rfl, _, _, rfl, .base (.int _), .inl ⟨rfl, _, rfl, iteF ?_⟩⟩
      refine ⟨_, rfl, mk_sh (by decide) (by decide +kernel) fun v' H' e z => k _ _ e ?_⟩
      rw [low_one] at z
      exact z

theorem ok_neg (F : Fun Z.K "__neg__" "Share.__neg__" s_Share_dd_neg f fd) (T : ShT Z C) (c2 : CShare Z C) : Z.ok CX0 4 f fd ["self"] (spUn C 9000 gNeg) := by
  refine F.ok sc_Share_dd_neg (fun vs H Q E h => ?_) (fun cdv A outer s H vs Q E hr h => ?_)
  · obtain ⟨v, q, rfl, _⟩ := h
    rfl
  · obtain ⟨x, q, rfl, ⟨a, dx, rfl, ha⟩, hq, k⟩ := h
    refine ⟨_, pss_one (ps_ret (pe_calC c2 hr (by rfl) pass0 (pa_cons (pe_un un_neg (pe_fld (pv 0) rfl)) (pa_cons (pe_fld (pv 0) rfl) pa_nil)))), ?_⟩
    refine ⟨_, rfl, a, C, dx, _, _, rfl, ha, T.cl, T.nT, shF_top _ _, _, rfl, _, rfl, a, C, dx, _, _, rfl, ha, T.cl, T.nU, shF_under _ _, ?_⟩
    exact mk_sh hq.ne hq.u k
theorem ok_abs (F : Fun Z.K "__abs__" "Share.__abs__" s_Share_dd_abs f fd) (T : ShT Z C) (c2 : CShare Z C) : Z.ok CX0 4 f fd ["self"] (spUn C 9000 gAbs) := by
  refine F.ok sc_Share_dd_abs (fun vs H Q E h => ?_) (fun cdv A outer s H vs Q E hr h => ?_)
  · obtain ⟨v, q, rfl, _⟩ := h
    rfl
  · obtain ⟨x, q, rfl, ⟨a, dx, rfl, ha⟩, hq, k⟩ := h
    refine ⟨_, pss_one (ps_ret (pe_calC c2 hr (by rfl) pass0 (pa_cons (pe_callB call_abs (by rfl) T.abs (by decide +kernel) (pa_cons (pe_fld (pv 0) rfl) pa_nil)) (pa_cons (pe_fld (pv 0) rfl) pa_nil)))), ?_⟩
    refine ⟨_, rfl, a, C, dx, _, _, rfl, ha, T.cl, T.nT, shF_top _ _, _, rfl, _, rfl, a, C, dx, _, _, rfl, ha, T.cl, T.nU, shF_under _ _, ?_⟩
    exact mk_sh hq.ne hq.u k
theorem ok_add (F : Fun Z.K "__add__" "Share.__add__" s_Share_dd_add f fd) (T : ShT Z C) (c1 : CNum Z C) (c2 : CShare Z C) : Z.ok CX0 5 f fd ["self", "other"] (spBin C 4000 gAdd) := by
  refine F.ok sc_Share_dd_add (fun vs H Q E h => ?_) (fun cdv A outer s H vs Q E hr h => ?_)
  · obtain ⟨x, y, q, r, rfl, _⟩ := h
    rfl
  · obtain ⟨x, y, q, r, rfl, hx, hy, hq, hr', k⟩ := h
    refine ⟨_, pss_cons (ps_set (i := 1) sc_Share_dd_add.nd rfl (Or.inl rfl) (pe_cal c1 hr (by rfl) pass0 (pa_cons (pv 1) pa_nil)))
      (pss_one (ps_ret (pe_calC c2 (hr.mono (by decide)) (by rfl) pass0 (pa_cons (pe_op op_add (pe_op op_mulW (pe_fld (pv 0) rfl) (pe_fld (pv 1) rfl)) (pe_op op_mulW (pe_fld (pv 1) rfl) (pe_fld (pv 0) rfl))) (pa_cons (pe_op op_mulW (pe_fld (pv 0) rfl) (pe_fld (pv 1) rfl)) pa_nil))))), ?_⟩
    refine ⟨_, rfl, _, r, rfl, hy, fun y' H1 e1 hy' => ?_⟩
    obtain ⟨a, dx, rfl, ha⟩ := hx.mono e1
    obtain ⟨b, dy, rfl, hb⟩ := id hy'
    refine ⟨_, rfl, a, C, dx, _, _, rfl, ha, T.cl, T.nT, shF_top _ _, _, rfl, b, C, dy, _, _, rfl, hb, T.cl, T.nU, shF_under _ _, _, _, rfl, rfl, lt_mul hq.t hr'.u, ?_⟩
    refine ⟨_, rfl, b, C, dy, _, _, rfl, hb, T.cl, T.nT, shF_top _ _, _, rfl, a, C, dx, _, _, rfl, ha, T.cl, T.nU, shF_under _ _, _, _, rfl, rfl, lt_mul hr'.t hq.u, _, _, rfl, rfl, ?_⟩
    refine ⟨_, rfl, a, C, dx, _, _, rfl, ha, T.cl, T.nU, shF_under _ _, _, rfl, b, C, dy, _, _, rfl, hb, T.cl, T.nU, shF_under _ _, _, _, rfl, rfl, lt_mul hq.u hr'.u, ?_⟩
    exact mk_sh (Int.mul_ne_zero hq.ne hr'.ne) (mul_lt hq.u hr'.u) fun v H' e z => k _ _ (e1.trans e) z
theorem ok_mul (F : Fun Z.K "__mul__" "Share.__mul__" s_Share_dd_mul f fd) (T : ShT Z C) (c1 : CNum Z C) (c2 : CShare Z C) : Z.ok CX0 5 f fd ["self", "other"] (spBin C 4000 gMul) := by
  refine F.ok sc_Share_dd_mul (fun vs H Q E h => ?_) (fun cdv A outer s H vs Q E hr h => ?_)
  · obtain ⟨x, y, q, r, rfl, _⟩ := h
    rfl
  · obtain ⟨x, y, q, r, rfl, hx, hy, hq, hr', k⟩ := h
    refine ⟨_, pss_cons (ps_set (i := 1) sc_Share_dd_mul.nd rfl (Or.inl rfl) (pe_cal c1 hr (by rfl) pass0 (pa_cons (pv 1) pa_nil)))
      (pss_one (ps_ret (pe_calC c2 (hr.mono (by decide)) (by rfl) pass0 (pa_cons (pe_op op_mulW (pe_fld (pv 0) rfl) (pe_fld (pv 1) rfl)) (pa_cons (pe_op op_mulW (pe_fld (pv 0) rfl) (pe_fld (pv 1) rfl)) pa_nil))))), ?_⟩
    refine ⟨_, rfl, _, r, rfl, hy, fun y' H1 e1 hy' => ?_⟩
    obtain ⟨a, dx, rfl, ha⟩ := hx.mono e1
    obtain ⟨b, dy, rfl, hb⟩ := id hy'
    refine ⟨_, rfl, a, C, dx, _, _, rfl, ha, T.cl, T.nT, shF_top _ _, _, rfl, b, C, dy, _, _, rfl, hb, T.cl, T.nT, shF_top _ _, _, _, rfl, rfl, lt_mul hq.t hr'.t, ?_⟩
    refine ⟨_, rfl, a, C, dx, _, _, rfl, ha, T.cl, T.nU, shF_under _ _, _, rfl, b, C, dy, _, _, rfl, hb, T.cl, T.nU, shF_under _ _, _, _, rfl, rfl, lt_mul hq.u hr'.u, ?_⟩
    exact mk_sh (Int.mul_ne_zero hq.ne hr'.ne) (mul_lt hq.u hr'.u) fun v H' e z => k _ _ (e1.trans e) z

def gSub (q r : Int × Int) : Int × Int := gAdd q (gNeg r)
def gBy (q r : Int × Int) : Int × Int := low (q.1 * r.2) (q.2 * r.1)
theorem Sz.neg {n : Nat} {q : Int × Int} (h : Sz n q) : Sz n (gNeg q) := by
  refine ⟨Int.ne_of_gt (low_pos h.ne), Nat.lt_of_le_of_lt (low_le1 h.ne) ?_, Nat.lt_of_le_of_lt (low_le2 h.ne) h.u⟩
  rw [Int.natAbs_neg]
  exact h.t
theorem Sz.up {m n : Nat} {q : Int × Int} (h : Sz m q) (hm : m ≤ n) : Sz n q := ⟨h.ne, lt_up h.t hm, lt_up h.u hm⟩
abbrev CAdd (Z : Cz) (C : Addr) : Prop := CalS Z CX0 5 C "__add__" ["self", "other"] (spBin C 4000 gAdd)
abbrev CMul (Z : Cz) (C : Addr) : Prop := CalS Z CX0 5 C "__mul__" ["self", "other"] (spBin C 4000 gMul)
abbrev CNeg (Z : Cz) (C : Addr) : Prop := CalS Z CX0 4 C "__neg__" ["self"] (spUn C 9000 gNeg)
theorem ok_radd (F : Fun Z.K "__radd__" "Share.__radd__" s_Share_dd_radd f fd) (T : ShT Z C) (c1 : CAdd Z C) (N : NumF Z.K C "add") : Z.ok CX0 6 f fd ["self", "other"] (spBin C 4000 gAdd) := by
  refine F.ok sc_Share_dd_radd (fun vs H Q E h => ?_) (fun cdv A outer s H vs Q E hr h => ?_)
  · obtain ⟨x, y, q, r, rfl, _⟩ := h
    rfl
  · obtain ⟨x, y, q, r, rfl, hx, hy, hq, hr', k⟩ := h
    refine ⟨_, pss_one (ps_ret (pe_op (op_num (op := .Add) c1 N hr pass0) (pv 0) (pv 1))), ?_⟩
    exact ⟨_, rfl, _, rfl, hx.ins, hy.num, _, _, _, _, rfl, hx, hy, hq, hr', k⟩
theorem ok_rmul (F : Fun Z.K "__rmul__" "Share.__rmul__" s_Share_dd_rmul f fd) (T : ShT Z C) (c1 : CMul Z C) (N : NumF Z.K C "mul") : Z.ok CX0 6 f fd ["self", "other"] (spBin C 4000 gMul) := by
  refine F.ok sc_Share_dd_rmul (fun vs H Q E h => ?_) (fun cdv A outer s H vs Q E hr h => ?_)
  · obtain ⟨x, y, q, r, rfl, _⟩ := h
    rfl
  · obtain ⟨x, y, q, r, rfl, hx, hy, hq, hr', k⟩ := h
    refine ⟨_, pss_one (ps_ret (pe_op (op_num (op := .Mult) c1 N hr pass0) (pv 0) (pv 1))), ?_⟩
    exact ⟨_, rfl, _, rfl, hx.ins, hy.num, _, _, _, _, rfl, hx, hy, hq, hr', k⟩
theorem ok_sub (F : Fun Z.K "__sub__" "Share.__sub__" s_Share_dd_sub f fd) (T : ShT Z C) (c1 : CAdd Z C) (c2 : CNum Z C) (c3 : CNeg Z C) (N : NumF Z.K C "add") : Z.ok CX0 6 f fd ["self", "other"] (spBin C 4000 gSub) := by
  refine F.ok sc_Share_dd_sub (fun vs H Q E h => ?_) (fun cdv A outer s H vs Q E hr h => ?_)
  · obtain ⟨x, y, q, r, rfl, _⟩ := h
    rfl
  · obtain ⟨x, y, q, r, rfl, hx, hy, hq, hr', k⟩ := h
    refine ⟨_, pss_one (ps_ret (pe_op (op_num (op := .Add) c1 N hr pass0) (pv 0) (pe_un (un_cal c3 (hr.mono (by decide)) pass0) (pe_cal c2 (hr.mono (by decide)) (by rfl) pass0 (pa_cons (pv 1) pa_nil))))), ?_⟩
    refine ⟨_, rfl, _, rfl, _, r, rfl, hy, fun y' H1 e1 hy' => ⟨hy'.ins, _, _, rfl, hy', hr'.up (by decide), fun y2 H2 e2 hy2 => ?_⟩⟩
    exact ⟨((hx.mono e1).mono e2).ins, .inl hy2.ins, _, _, _, _, rfl, (hx.mono e1).mono e2, .inl hy2, hq, hr'.neg, fun v H' e z => k _ _ ((e1.trans e2).trans e) z⟩
theorem ok_rsub (F : Fun Z.K "__rsub__" "Share.__rsub__" s_Share_dd_rsub f fd) (T : ShT Z C) (c1 : CAdd Z C) (c2 : CNum Z C) (c3 : CNeg Z C) (N : NumF Z.K C "add") : Z.ok CX0 6 f fd ["self", "other"] (spBin C 4000 fun q r => gSub r q) := by
  refine F.ok sc_Share_dd_rsub (fun vs H Q E h => ?_) (fun cdv A outer s H vs Q E hr h => ?_)
  · obtain ⟨x, y, q, r, rfl, _⟩ := h
    rfl
  · obtain ⟨x, y, q, r, rfl, hx, hy, hq, hr', k⟩ := h
    refine ⟨_, pss_one (ps_ret (pe_op (op_num (op := .Add) c1 N hr pass0) (pe_cal c2 (hr.mono (by decide)) (by rfl) pass0 (pa_cons (pv 1) pa_nil)) (pe_un (un_cal c3 (hr.mono (by decide)) pass0) (pv 0)))), ?_⟩
    refine ⟨_, rfl, _, r, rfl, hy, fun y' H1 e1 hy' => ⟨_, rfl, (hx.mono e1).ins, _, _, rfl, hx.mono e1, hq.up (by decide), fun x2 H2 e2 hx2 => ?_⟩⟩
    exact ⟨(hy'.mono e2).ins, .inl hx2.ins, _, _, _, _, rfl, hy'.mono e2, .inl hx2, hr', hq.neg, fun v H' e z => k _ _ ((e1.trans e2).trans e) z⟩
/-- by: the other is not 0 -/
def spBy (C : Addr) : Sp := fun vs H Q _ => ∃ x y q r, vs = [x, y] ∧ Sh C H x q ∧ Nb C H y r ∧ Sz 4000 q ∧ Sz 4000 r ∧ r.1 ≠ 0 ∧ ∀ v H', Same H H' → Sh C H' v (gBy q r) → Q v H'
theorem ok_by (F : Fun Z.K "by" "Share.by" s_Share_by f fd) (T : ShT Z C) (c1 : CNum Z C) (c2 : CShare Z C) : Z.ok CX0 5 f fd ["self", "other"] (spBy C) := by
  refine F.ok sc_Share_by (fun vs H Q E h => ?_) (fun cdv A outer s H vs Q E hr h => ?_)
  · obtain ⟨x, y, q, r, rfl, _⟩ := h
    rfl
  · obtain ⟨x, y, q, r, rfl, hx, hy, hq, hr', hn, k⟩ := h
    refine ⟨_, pss_cons (ps_set (i := 1) sc_Share_by.nd rfl (Or.inl rfl) (pe_cal c1 hr (by rfl) pass0 (pa_cons (pv 1) pa_nil)))
      (pss_cons (ps_if (pt_cmpR op_eq (pe_fld (pv 1) rfl) pe_int (nomark _)) (pss_one ps_never) pss_nil)
      (pss_one (ps_ret (pe_calC c2 (hr.mono (by decide)) (by rfl) pass0 (pa_cons (pe_op op_mulW (pe_fld (pv 0) rfl) (pe_fld (pv 1) rfl)) (pa_cons (pe_op op_mulW (pe_fld (pv 0) rfl) (pe_fld (pv 1) rfl)) pa_nil)))))), ?_⟩
    refine ⟨_, rfl, _, r, rfl, hy, fun y' H1 e1 hy' => ?_⟩
    obtain ⟨a, dx, rfl, ha⟩ := hx.mono e1
    obtain ⟨b, dy, rfl, hb⟩ := id hy'
    refine ⟨_, rfl, b, C, dy, _, _, rfl, hb, T.cl, T.nT, shF_top _ _, rfl, _, rfl, ?_⟩
    rw [decide_eq_false (show ¬ V.int r.1 = V.int 0 from fun z => hn (V.int.inj z))]
    refine iteF ?_
    refine ⟨_, rfl, a, C, dx, _, _, rfl, ha, T.cl, T.nT, shF_top _ _, _, rfl, b, C, dy, _, _, rfl, hb, T.cl, T.nU, shF_under _ _, _, _, rfl, rfl, lt_mul hq.t hr'.u, ?_⟩
    refine ⟨_, rfl, a, C, dx, _, _, rfl, ha, T.cl, T.nU, shF_under _ _, _, rfl, b, C, dy, _, _, rfl, hb, T.cl, T.nT, shF_top _ _, _, _, rfl, rfl, lt_mul hq.u hr'.t, ?_⟩
    exact mk_sh (Int.mul_ne_zero hq.ne hn) (mul_lt hq.u hr'.t) fun v H' e z => k _ _ (e1.trans e) z
/-- a field, or what is reckoned of a share -/
def spGet (C : Addr) (n : Nat) (g : Int × Int → V) : Sp := fun vs H Q _ => ∃ x q, vs = [x] ∧ Sh C H x q ∧ Sz n q ∧ Q (g q) H
theorem ok_top (F : Fun Z.K "top" "Share.top" s_Share_top f fd) (T : ShT Z C) : Z.ok CX0 1 f fd ["self"] (spGet C 9000 fun q => .int q.1) := by
  refine F.ok sc_Share_top (fun vs H Q E h => ?_) (fun cdv A outer s H vs Q E hr h => ?_)
  · obtain ⟨x, q, rfl, _⟩ := h
    rfl
  · obtain ⟨x, q, rfl, ⟨a, dx, rfl, ha⟩, hq, k⟩ := h
    exact ⟨_, pss_one (ps_ret (pe_fld (pv 0) rfl)), _, rfl, a, C, dx, _, _, rfl, ha, T.cl, T.nT, shF_top _ _, k⟩
theorem ok_under (F : Fun Z.K "under" "Share.under" s_Share_under f fd) (T : ShT Z C) : Z.ok CX0 1 f fd ["self"] (spGet C 9000 fun q => .int q.2) := by
  refine F.ok sc_Share_under (fun vs H Q E h => ?_) (fun cdv A outer s H vs Q E hr h => ?_)
  · obtain ⟨x, q, rfl, _⟩ := h
    rfl
  · obtain ⟨x, q, rfl, ⟨a, dx, rfl, ha⟩, hq, k⟩ := h
    exact ⟨_, pss_one (ps_ret (pe_fld (pv 0) rfl)), _, rfl, a, C, dx, _, _, rfl, ha, T.cl, T.nU, shF_under _ _, k⟩
end
end Ps

/-! The law's own draws: numbers within bounds. -/
namespace Ps
open PySem PySem.Spec PyProof.Rows PySem.W L2

/-- built-in names that the law uses -/
structure DrT (Z : Cz) : Prop where
  int : Z.mg "int" = none
  len : Z.mg "len" = none
  range : Z.mg "range" = none
  max : Z.mg "max" = none
  min : Z.mg "min" = none
def Below (ms ns : List Int) : Prop := ms.length = ns.length ∧ ∀ (i : Nat) (m n : Int), ms[i]? = some m → ns[i]? = some n → 0 ≤ m ∧ m < n
theorem Below.nil : Below [] [] := ⟨rfl, fun i m n h _ => by simp at h⟩
theorem Below.snoc {ms ns : List Int} {m n : Int} (h : Below ms ns) (h0 : 0 ≤ m) (h1 : m < n) : Below (ms ++ [m]) (ns ++ [n]) := by
  refine ⟨by rw [List.length_append, List.length_append, h.1]; rfl, fun i a b ha hb => ?_⟩
  by_cases hi : i < ms.length
  · rw [List.getElem?_append_left hi] at ha
    rw [List.getElem?_append_left (by rw [← h.1]; exact hi)] at hb
    exact h.2 i a b ha hb
  · rw [List.getElem?_append_right (by omega)] at ha
    rw [List.getElem?_append_right (by rw [← h.1]; omega)] at hb
    rw [← h.1] at hb
    cases e : i - ms.length with
    | zero =>
      rw [e] at ha hb
      simp at ha hb
      subst ha; subst hb
      exact ⟨h0, h1⟩
    | succ j =>
      rw [e] at ha
      simp at ha
theorem take_snoc {ns : List Int} {i : Nat} {n : Int} (h : ns[i]? = some n) : ns.take (i + 1) = ns.take i ++ [n] := by
  rw [List.take_succ, h]
  rfl
/-- sizes that may be drawn by -/
structure Sizes (ns : List Int) : Prop where
  len : ns.length ≤ 10000
  pos : ∀ n ∈ ns, 0 < n ∧ n < 1073741824
def spNumbers (K : Frag) : Sp := fun vs H Q _ => ∃ (c s : Int) (a : Addr) (ns : List Int), vs = [.int c, .int s, .ref a] ∧ SqL K H a (ns.map V.int) ∧ Sizes ns ∧ 0 ≤ s ∧ s ≤ 1000 ∧
  ∀ p H' ms, Same H H' → H p = none → H' p = some (.lst (ms.map V.int)) → Below ms ns → Q (.ref p) H'
theorem small1000' {n : Nat} (h : n ≤ 100000) : n < sizeLine := Nat.lt_of_le_of_lt h (by decide)
theorem pow_ok {i j : Int} (h0 : 0 ≤ j) (h1 : j ≤ 1000000) (h2 : i.natAbs < 2 ^ 64) : L2.CPow i j := ⟨h0, h1, h2⟩
section
variable {Z : Cz} {f : Addr} {fd : FuncData}
theorem ok_numbers (F : Fun Z.K "_law_numbers" "_law_numbers" s_lw_numbers f fd) (T : DrT Z) : Z.ok CX0 1 f fd ["_law_cell_here", "_law_salt", "_law_sizes"] (spNumbers Z.K) := by
  refine F.ok sc_lw_numbers (fun vs H Q E h => ?_) (fun cdv A outer s H vs Q E hr h => ?_)
  · obtain ⟨c, s, a, ns, rfl, _⟩ := h
    rfl
  · obtain ⟨c, sa, a, ns, rfl, hS, hz, hs0, hs1, k⟩ := h
    have nd := sc_lw_numbers.nd
    refine ⟨_, (pss_cons (ps_set (i := 3) sc_lw_numbers.nd rfl (Or.inl rfl) (pe_callB (call_max2 rfl) (by rfl) T.max (by decide +kernel) (pa_cons (pe_int1 (by rfl) T.int (pv 0)) (pa_cons (pe_int1 (by rfl) T.int (pe_op op_sub (pe_un un_neg pe_int) (pv 0))) pa_nil))))
      (pss_cons (ps_set (i := 4) sc_lw_numbers.nd rfl (Or.inl rfl) (pv 3))
      (pss_cons (ps_set (i := 5) sc_lw_numbers.nd rfl (Or.inl rfl) (pe_lst pa_nil))
      (pss_cons (ps_for PassesOwn.never rfl (pi_range1 (by rfl) T.range (pa_cons (pe_callB call_len_seq (by rfl) T.len PySem.boot_len (pa_cons (pv 2) pa_nil)) pa_nil)) (pg_name (i := 6) sc_lw_numbers.nd rfl (Or.inl rfl))
      (pss_one (ps_if (PW.pt (pw_and (pt_cmpR op_ge (pv 3) (pe_op op_pow pe_int pe_int) (nomark _)) (pw_and1 (pt_cmpR op_gt (pv 4) pe_int (nomark _)))))
        (pss_cons (ps_expr (pe_bm PySem.F.plainAttrs_list PySem.F.slot_list_append PySem.F.type_list_append mt_append (pv 5) (pa_cons (pe_op op_mod (pe_int1 (by rfl) T.int (pv 4)) (pe_ix ix_list (pv 2) (pv 6) (fun _ _ => rfl))) pa_nil)))
          (pss_one (ps_set (i := 4) sc_lw_numbers.nd rfl (Or.inl rfl) (pe_op op_fdiv (pv 4) (pe_ix ix_list (pv 2) (pv 6) (fun _ _ => rfl))))))
        (pss_cons (ps_set (i := 7) sc_lw_numbers.nd rfl (Or.inl rfl) (pe_op op_pow (pe_op op_add (pe_op op_add (pe_op op_mod (pe_int1 (by rfl) T.int (pv 3)) pe_int) (pe_op op_mul pe_int (pv 1))) pe_int) pe_int))
          (pss_cons (ps_set (i := 7) sc_lw_numbers.nd rfl (Or.inl rfl) (pe_op op_mul (pe_op op_add (pe_op op_mod (pe_int1 (by rfl) T.int (pv 7)) pe_int) (pe_op op_mul pe_int (pe_op op_add (pv 6) pe_int))) (pe_op op_add (pv 6) pe_int)))
          (pss_cons (ps_set (i := 7) sc_lw_numbers.nd rfl (Or.inl rfl) (pe_op op_mod (pe_int1 (by rfl) T.int (pv 7)) pe_int))
          (pss_cons (ps_set (i := 7) sc_lw_numbers.nd rfl (Or.inl rfl) (pe_op op_mul (pe_op op_mod (pe_int1 (by rfl) T.int (pe_op op_pow (pv 7) pe_int)) pe_int) pe_int))
          (pss_cons (ps_set (i := 7) sc_lw_numbers.nd rfl (Or.inl rfl) (pe_op op_mod (pe_int1 (by rfl) T.int (pv 7)) pe_int))
          (pss_one (ps_expr (pe_bm PySem.F.plainAttrs_list PySem.F.slot_list_append PySem.F.type_list_append mt_append (pv 5) (pa_cons (pe_op op_mod (pe_int1 (by rfl) T.int (pe_op op_fdiv (pv 7) pe_int)) (pe_ix ix_list (pv 2) (pv 6) (fun _ _ => rfl))) pa_nil))))))))))))
      (pss_one (ps_ret (pv 5))))))), ?_⟩
    refine ⟨_, rfl, _, rfl, _, rfl, _, rfl, _, _, rfl, rfl, _, rfl, _, _, rfl, ?_⟩
    generalize (if (-1 - c : Int) > c then (-1 - c : Int) else c) = wh
    refine ⟨_, rfl, ?_⟩
    refine ⟨by decide, fun p hp => ?_⟩
    have e0 : Same H (upd H p (.lst [])) := fun b o e => by rw [upd_ne (ne_of_none e hp)]; exact e
    have hln : (ns.map V.int).length = ns.length := List.length_map ..
    have hl := hz.len
    refine ⟨_, rfl, a, _, rfl, .inl (e0.seq hS), _, rfl, by omega, by omega, for_range (lo := 0) (fun i σ H1 => ∃ (l : Int) (ms : List Int) (o k : Option V), σ = [some (.int c), some (.int sa), some (.ref a), some (.int wh), some (.int l), some (.ref p), k, o] ∧ Same H H1 ∧ H1 p = some (.lst (ms.map V.int)) ∧ Below ms (ns.take i))
      ⟨wh, [], none, none, rfl, e0, upd_same, Below.nil⟩ ?_ ?_⟩
    · rintro i σ H1 hi ⟨l, ms, o, k', rfl, e1, h1, hb⟩
      have hi' : i < ns.length := by omega
      obtain ⟨n, hn⟩ : ∃ n, ns[i]? = some n := ⟨ns[i], List.getElem?_eq_getElem hi'⟩
      have hnp := hz.pos n (List.mem_of_getElem? hn)
      have hat : atI (ns.map V.int) (0 + (i : Int)) = some (.int n) := by
        rw [Int.zero_add]
        exact atI_nat (by rw [List.getElem?_map, hn]; rfl)
      have hml : ms.length ≤ 10000 := by
        rw [hb.1, List.length_take]; omega
      have fin : ∀ (m l' : Int) (o' k2 : Option V), 0 ≤ m → m < n → ∃ (l : Int) (ms' : List Int) (o k : Option V), [some (V.int c), some (.int sa), some (.ref a), some (.int wh), some (.int l'), some (.ref p), k2, o'] = [some (.int c), some (.int sa), some (.ref a), some (.int wh), some (.int l), some (.ref p), k, o] ∧
          Same H (upd H1 p (.lst (ms.map V.int ++ [.int m]))) ∧ (upd H1 p (.lst (ms.map V.int ++ [.int m]))) p = some (.lst (ms'.map V.int)) ∧ Below ms' (ns.take (i + 1)) := by
        intro m l' o' k2 h0 h2
        refine ⟨l', ms ++ [m], o', k2, rfl, fun b o e => ?_, ?_, ?_⟩
        · rw [upd_ne (ne_of_none e hp)]
          exact e1 b o e
        · rw [upd_same, List.map_append]
          rfl
        · rw [take_snoc hn]
          exact hb.snoc h0 h2
      have hml' : (ms.map V.int).length < sizeLine := by rw [List.length_map]; exact small1000' (by omega)
      have hS1 := e1.seq hS
      have hm2 : ∀ z : Int, 0 ≤ z % n ∧ z % n < n := fun z => ⟨Int.emod_nonneg _ (by omega), Int.emod_lt_of_pos _ hnp.1⟩
      refine ⟨_, rfl, _, _, rfl, rfl, pow_ok (by decide) (by decide) (by decide), _, _, rfl, rfl, _, rfl, iteD (fun _ => ?_) (fun _ => ?_)⟩
      · refine ⟨_, rfl, _, _, rfl, rfl, _, rfl, iteD (fun _ => ?_) (fun _ => ?_)⟩
        · refine ⟨_, rfl, .inl ⟨rfl, _, SqL.of h1⟩, _, rfl, _, rfl, _, rfl, _, rfl, a, _, _, _, rfl, rfl, hS1, hat, _, _, rfl, rfl, hnp.1, p, _, _, rfl, rfl, h1, hml', ?_⟩
          have hS2 : SqL Z.K (upd H1 p (.lst (ms.map V.int ++ [.int (l % n)]))) a (ns.map V.int) := by
            obtain ⟨_, _, _, _, _, e2, _, _⟩ := fin (l % n) l o none (hm2 l).1 (hm2 l).2
            exact e2.seq hS
          refine ⟨_, rfl, _, rfl, _, rfl, a, _, _, _, rfl, rfl, hS2, hat, _, _, rfl, rfl, ⟨hnp.1, hnp.2⟩, ?_⟩
          exact fin _ _ _ _ (hm2 l).1 (hm2 l).2
        · refine ⟨_, rfl, _, rfl, _, _, rfl, rfl, (by show (0 : Int) < 2147483629; decide), _, rfl, _, _, rfl, rfl, .inl ⟨by decide, by decide⟩, _, _, rfl, rfl, _, _, rfl, rfl, _, _, rfl, rfl, pow_ok (by decide) (by decide) (by omega), ?_⟩
          refine ⟨_, rfl, _, rfl, _, _, rfl, rfl, (by show (0 : Int) < 2147483647; decide), _, rfl, _, _, rfl, rfl, _, _, rfl, rfl, .inl ⟨by decide, by decide⟩, _, _, rfl, rfl, _, rfl, _, _, rfl, rfl, _, _, rfl, rfl, .inr ⟨by omega, by omega⟩, ?_⟩
          refine ⟨_, rfl, _, rfl, _, _, rfl, rfl, (by show (0 : Int) < 2147483629; decide), ?_⟩
          refine ⟨_, rfl, _, _, rfl, rfl, pow_ok (by decide) (by decide) (by omega), _, rfl, _, _, rfl, rfl, (by show (0 : Int) < 2147483647; decide), _, _, rfl, rfl, .inr ⟨by decide, by decide⟩, ?_⟩
          refine ⟨_, rfl, _, rfl, _, _, rfl, rfl, (by show (0 : Int) < 2147483629; decide), ?_⟩
          refine ⟨_, rfl, .inl ⟨rfl, _, SqL.of h1⟩, _, rfl, _, _, rfl, rfl, ⟨by decide, by decide⟩, _, rfl, _, rfl, _, rfl, a, _, _, _, rfl, rfl, hS1, hat, _, _, rfl, rfl, hnp.1, p, _, _, rfl, rfl, h1, hml', ?_⟩
          exact fin _ _ _ _ (hm2 _).1 (hm2 _).2
      · refine ⟨_, rfl, _, rfl, _, _, rfl, rfl, (by show (0 : Int) < 2147483629; decide), _, rfl, _, _, rfl, rfl, .inl ⟨by decide, by decide⟩, _, _, rfl, rfl, _, _, rfl, rfl, _, _, rfl, rfl, pow_ok (by decide) (by decide) (by omega), ?_⟩
        refine ⟨_, rfl, _, rfl, _, _, rfl, rfl, (by show (0 : Int) < 2147483647; decide), _, rfl, _, _, rfl, rfl, _, _, rfl, rfl, .inl ⟨by decide, by decide⟩, _, _, rfl, rfl, _, rfl, _, _, rfl, rfl, _, _, rfl, rfl, .inr ⟨by omega, by omega⟩, ?_⟩
        refine ⟨_, rfl, _, rfl, _, _, rfl, rfl, (by show (0 : Int) < 2147483629; decide), ?_⟩
        refine ⟨_, rfl, _, _, rfl, rfl, pow_ok (by decide) (by decide) (by omega), _, rfl, _, _, rfl, rfl, (by show (0 : Int) < 2147483647; decide), _, _, rfl, rfl, .inr ⟨by decide, by decide⟩, ?_⟩
        refine ⟨_, rfl, _, rfl, _, _, rfl, rfl, (by show (0 : Int) < 2147483629; decide), ?_⟩
        refine ⟨_, rfl, .inl ⟨rfl, _, SqL.of h1⟩, _, rfl, _, _, rfl, rfl, ⟨by decide, by decide⟩, _, rfl, _, rfl, _, rfl, a, _, _, _, rfl, rfl, hS1, hat, _, _, rfl, rfl, hnp.1, p, _, _, rfl, rfl, h1, hml', ?_⟩
        exact fin _ _ _ _ (hm2 _).1 (hm2 _).2
    · rintro σ H1 ⟨l, ms, o, k', rfl, e1, h1, hb⟩
      refine ⟨_, rfl, k p H1 ms e1 hp h1 ?_⟩
      rw [hln, Int.toNat_natCast, List.take_length] at hb
      exact hb
/-- a pool at p: its numbers at q, the place of the next one -/
structure Pool (H : Hp) (p q : Addr) (ms : List Int) (i : Nat) : Prop where
  at_ : H p = some (.lst [.ref q, .int i])
  nums : H q = some (.lst (ms.map V.int))
  len : ms.length ≤ 10000
  few : i ≤ 100000
theorem Pool.ne {H : Hp} {p q : Addr} {ms : List Int} {i : Nat} (h : Pool H p q ms i) : p ≠ q := ne_of h.at_ h.nums (by
  intro z
  have z := HO.lst.inj z
  cases ms with
  | nil => cases z
  | cons m r =>
    rw [List.map_cons] at z
    cases (List.cons.inj z).1)
theorem rep420 (k : Nat) : (List.replicate k [V.int 420]).flatten = (List.replicate k (420 : Int)).map V.int := by
  induction k with
  | zero => rfl
  | succ k ih => rw [List.replicate_succ, List.flatten_cons, ih, List.replicate_succ]; rfl
def spPool : Sp := fun vs H Q _ => ∃ (c s n : Int), vs = [.int c, .int s, .int n] ∧ 0 ≤ s ∧ s ≤ 1000 ∧ 0 ≤ n ∧ n ≤ 10000 ∧
  ∀ p q H' ms, Same H H' → H p = none → H q = none → Pool H' p q ms 0 → Q (.ref p) H'
theorem ok_pool (F : Fun Z.K "_law_pool" "_law_pool" s_lw_pool f fd) (T : DrT Z) (c_lw_numbers : Cal Z CX0 1 "_law_numbers" ["_law_cell_here", "_law_salt", "_law_sizes"] [] (spNumbers Z.K)) : Z.ok CX0 2 f fd ["_law_cell_here", "_law_salt", "_law_many"] spPool := by
  refine F.ok sc_lw_pool (fun vs H Q E h => ?_) (fun cdv A outer s H vs Q E hr h => ?_)
  · obtain ⟨c, s, n, rfl, _⟩ := h
    rfl
  · obtain ⟨c, sa, n, rfl, hs0, hs1, hn0, hn1, k⟩ := h
    refine ⟨_, (pss_one (ps_ret (pe_lst (pa_cons (pe_cal c_lw_numbers (hr.mono (by decide)) (by rfl) pass0 (pa_cons (pv 0) (pa_cons (pv 1) (pa_cons (pe_op op_rep (pe_lst (pa_cons pe_int pa_nil)) (pv 2)) pa_nil)))) (pa_cons pe_int pa_nil))))), ?_⟩
    refine ⟨_, rfl, _, rfl, by decide, fun l hl => ?_⟩
    refine ⟨_, rfl, l, n, _, rfl, rfl, upd_same, by omega, by omega, ?_, fun l2 hl2 => ?_⟩
    · show 1 * n.toNat ≤ sizeLine
      rw [Nat.one_mul]
      exact Nat.le_of_lt (small1000' (by omega))
    have e1 : Same H (upd (upd H l (.lst [.int 420])) l2 (.lst (List.replicate n.toNat [V.int 420]).flatten)) := fun b o e => by
      have := e
      rw [upd_ne, upd_ne (ne_of_none e hl)]
      · exact e
      · intro z
        subst z
        rw [upd_ne (ne_of_none e hl), e] at hl2
        cases hl2
    refine ⟨c, sa, l2, List.replicate n.toNat 420, rfl, SqL.of (by rw [upd_same, rep420]), ⟨?_, ?_⟩, hs0, hs1, fun q H2 ms e2 hq h2 hb => ?_⟩
    · rw [List.length_replicate]; omega
    · intro x hx
      rw [(List.mem_replicate.mp hx).2]
      decide
    have e3 := e1.trans e2
    refine ⟨Nat.le_of_lt (small1000' (show 2 ≤ 100000 by decide)), fun p hp => ?_⟩
    have hqn : H q = none := e1.free hq
    have hne : q ≠ p := ne_of_none h2 hp
    refine k p q _ ms (fun b o e => ?_) (e3.free hp) hqn ⟨upd_same, by rw [upd_ne hne]; exact h2, ?_, by decide⟩
    · rw [upd_ne (ne_of_none (e3 b o e) hp)]
      exact e3 b o e
    · rw [hb.1, List.length_replicate]; omega
/-- a draw -/
def spDraw : Sp := fun vs H Q _ => ∃ (p q : Addr) (ms : List Int) (i : Nat) (n : Int), vs = [.ref p, .int n] ∧ Pool H p q ms i ∧ 0 < n ∧ i < 100000 ∧
  ∀ r H', 0 ≤ r → r < n → (∀ b, b ≠ p → H' b = H b) → Pool H' p q ms (i + 1) → Q (.int r) H'
theorem ok_draw (F : Fun Z.K "_law_draw" "_law_draw" s_lw_draw f fd) (T : DrT Z) : Z.ok CX0 1 f fd ["_law_pool_here", "_law_many"] spDraw := by
  refine F.ok sc_lw_draw (fun vs H Q E h => ?_) (fun cdv A outer s H vs Q E hr h => ?_)
  · obtain ⟨p, q, ms, i, n, rfl, _⟩ := h
    rfl
  · obtain ⟨p, q, ms, i, n, rfl, hP, hn, hi, k⟩ := h
    refine ⟨_, (pss_cons (ps_set (i := 2) sc_lw_draw.nd rfl (Or.inl rfl) (pe_ix ix_list (pv 0) pe_int (fun _ _ => rfl)))
      (pss_cons (ps_asg (pe_op op_add (pv 2) pe_int) (pg_sub (pv 0) pe_int set_list))
      (pss_one (ps_ret (pe_ifExp (pt_cmpR op_lt (pv 2) (pe_callB call_len_seq (by rfl) T.len PySem.boot_len (pa_cons (pe_ix ix_list (pv 0) pe_int (fun _ _ => rfl)) pa_nil)) (nomark _)) (pe_op op_mod (pe_int1 (by rfl) T.int (pe_ix ix_list (pe_ix ix_list (pv 0) pe_int (fun _ _ => rfl)) (pv 2) (fun _ _ => rfl))) (pv 1)) pe_int))))), ?_⟩
    refine ⟨_, rfl, p, _, _, _, rfl, rfl, SqL.of hP.at_, rfl, ?_⟩
    refine ⟨_, rfl, _, _, rfl, rfl, _, rfl, p, _, _, 1, rfl, rfl, hP.at_, rfl, ?_⟩
    have hP2 : Pool (upd H p (.lst [.ref q, .int ((i : Int) + 1)])) p q ms (i + 1) := ⟨by rw [upd_same, show ((i + 1 : Nat) : Int) = (i : Int) + 1 by omega], by rw [upd_ne hP.ne.symm]; exact hP.nums, hP.len, hi⟩
    have hsame : ∀ b, b ≠ p → (upd H p (.lst [.ref q, .int ((i : Int) + 1)])) b = H b := fun b hb => upd_ne hb
    refine ⟨_, rfl, _, rfl, p, _, _, _, rfl, rfl, SqL.of upd_same, rfl, q, _, rfl, .inl (SqL.of hP2.nums), _, _, rfl, rfl, _, rfl, iteD (fun hlt => ?_) (fun hge => ?_)⟩
    · rw [List.length_map] at hlt
      have hlt' : i < ms.length := by omega
      refine ⟨_, rfl, p, _, _, _, rfl, rfl, SqL.of upd_same, rfl, _, rfl, q, _, _, V.int ms[i], rfl, rfl, SqL.of hP2.nums, ?_, _, rfl, _, rfl, _, _, rfl, rfl, hn, ?_⟩
      · exact atI_nat (by rw [List.getElem?_map, List.getElem?_eq_getElem hlt']; rfl)
      · exact k _ _ (Int.emod_nonneg _ (by omega)) (Int.emod_lt_of_pos _ hn) hsame hP2
    · exact k 0 _ (Int.le_refl 0) hn hsame hP2
/-- the pool of the script's k-th cell -/
def spOpened (K : Frag) : Sp := fun vs H Q _ => ∃ (a : Addr) (ns : List Int) (i : Nat) (n : Int), vs = [.ref a, .int i, .int n] ∧ SqL K H a (ns.map V.int) ∧ (i < ns.length ∨ (ns = [] ∧ i = 0)) ∧ i ≤ 1000 ∧ 0 ≤ n ∧ n ≤ 10000 ∧
  ∀ p q H' ms, Same H H' → H p = none → H q = none → Pool H' p q ms 0 → Q (.ref p) H'
theorem DpAll.ints {K : Frag} {H : Hp} : ∀ ns : List Int, DpAll K H (ns.map V.int) (ns.map PyData.int)
  | [] => .nil
  | n :: r => .cons (.int n) (DpAll.ints r)
theorem shaped_ints (ns : List Int) : SeqAt.shaped (.list (ns.map PyData.int)) = true := ke_shaped_ints ns
end
end Ps

/-! Shares behind the top: facts by a Bool. -/
namespace Ps
open PySem PySem.Spec PyProof.Rows PySem.W L2 He

theorem neB_ok {K : Frag} {C : Addr} (c : neB K C = true) : NeT K C := by
  obtain ⟨c1, c2⟩ := ba c
  exact ⟨eqO_ok c1, of_decide_eq_true c2⟩
theorem rflB_ok {K : Frag} {C : Addr} {nm : String} (c : rflB K C nm = true) : Rfl K C nm := ⟨⟨_, eqO_ok c, .inr ⟨_, rfl⟩⟩⟩
theorem noiB_ok {K : Frag} {C : Addr} {nm : String} (c : noiB K C nm = true) : NoI K C nm := by
  obtain ⟨c1, c⟩ := ba c
  obtain ⟨c2, c3⟩ := ba c
  obtain ⟨cd, hc, hm⟩ := any_some c1
  exact ⟨⟨cd, hc, of_decide_eq_true hm⟩, eqO_ok c2, of_decide_eq_true c3⟩
section
variable {K : Frag} {h : Heap} {mg : Str → Option Value}
theorem shB_ok {P : Program} {w : World} {base : Heap} (X : K.In h) (G : h.Ns mainGlobals mg) (c : shB K = true) : ShT ⟨P, w, K, mg, base⟩ (ga K "Share") ∧ DrT ⟨P, w, K, mg, base⟩ ∧ Mk K (ga K "Share") (ma K (ga K "Share") "__init__") := by
  obtain ⟨c1, c⟩ := ba c
  obtain ⟨c2, c⟩ := ba c
  obtain ⟨c3, c⟩ := ba c
  obtain ⟨c4, c⟩ := ba c
  obtain ⟨c5, c⟩ := ba c
  obtain ⟨c6, c⟩ := ba c
  obtain ⟨c7, c⟩ := ba c
  obtain ⟨c8, c⟩ := ba c
  obtain ⟨c9, c⟩ := ba c
  obtain ⟨c10, c11⟩ := ba c
  obtain ⟨d1, d⟩ := ba c7
  obtain ⟨d2, d⟩ := ba d
  obtain ⟨d3, d4⟩ := ba d
  have f := fun {x : Str} (hx : x ∈ (["isinstance", "int", "bool", "abs", "len", "range", "max", "min"] : List Str)) => freeB_ok X G c6 hx
  exact ⟨⟨cls_ok c1, noat_ok c3, noat_ok c4, glo_ok X G c5, f (by simp), f (by simp), f (by simp), f (by simp), eqO_ok d1, eqO_ok d2, of_decide_eq_true d3, of_decide_eq_true d4, of_decide_eq_true c8, of_decide_eq_true c9, of_decide_eq_true c10, fun t ht => of_decide_eq_true (List.all_eq_true.mp c11 t ht)⟩,
    ⟨f (by simp), f (by simp), f (by simp), f (by simp), f (by simp)⟩, mkr_ok c2⟩
end
section
variable {Z : Cz} {h : Heap} {fn : List DefP} {ex : Frag → Bool}
/-- Share(..) -/
theorem mk_cals (X : Z.K.In h) (G : h.Ns mainGlobals Z.mg) (T : ShT Z (ga Z.K "Share")) (M : Mk Z.K (ga Z.K "Share") (ma Z.K (ga Z.K "Share") "__init__"))
    (g1 : ∃ f fd, Got Z.K Z.mg "is_integer" s_is_integer f fd) (g2 : ∃ f fd, Got Z.K Z.mg "common" s_common f fd)
    (g3 : ∃ fd, FunD Z.K "__init__" "Share.__init__" (defArgs s_Share_dd_init) (defBody s_Share_dd_init) (defScope s_Share_dd_init) [.int 1] [] (ma Z.K (ga Z.K "Share") "__init__") fd) :
    Cal Z CX0 1 "is_integer" ["value"] [] (spIsInt Z.K) ∧ CShare Z (ga Z.K "Share") ∧ CShare1 Z (ga Z.K "Share") := by
  obtain ⟨f1, fd1, g1⟩ := g1
  obtain ⟨f2, fd2, g2⟩ := g2
  obtain ⟨fd3, F3⟩ := g3
  have c1 := g1.cal (ok_is_integer g1.F T) (g1.F.binds fun _ _ _ _ _ _ us hl => match us, hl with | [_], _ => rfl)
  have c2 := g2.cal (ok_common g2.F T) (g2.F.binds fun _ _ _ _ _ _ us hl => match us, hl with | [_, _], _ => rfl)
  have k3 := ok_ShInit F3 T c1 c2
  obtain ⟨d1, v1, b1⟩ := FunD.binds1 (ps := ["self", "top", "under"]) F3 3 1 (by simp) rfl (fun T kV doc pm an cdv ct us its hl hi => match us, hl, its, hi with | [_, _, _], _, [_], _ => ⟨_, rfl, rfl⟩)
  obtain ⟨d2, v2, b2⟩ := FunD.binds1 (ps := ["self", "top", "under"]) F3 2 0 (by simp) rfl (fun T kV doc pm an cdv ct us its hl hi => match us, hl, its, hi with | [_, _], _, [_], _ => ⟨_, rfl, rfl⟩)
  exact ⟨c1, ⟨_, _, _, k3, M, T.mgC, b1, v1⟩, ⟨_, _, _, k3, M, T.mgC, b2, v2⟩⟩
end
end Ps

/-! Own errors behind the top. -/
namespace Ps
open PySem PySem.Spec PyProof.Rows PySem.W L2 He

theorem excObjB_ok {K : Frag} {C P : Addr} (h : excObjB K C P = true) : ∃ nm q N bs sn sub ab col dd k0 k1 k2 k3 k5, K.lookup C = some (excClassObj nm q C N bs (.ref P :: ESX.exTail) true sn sub ab col dd k0 k1 k2 k3 k5 "Exception.__new__") := by
  unfold excObjB at h
  split at h
  · rename_i dd cd sl ho
    split at h
    · rename_i k0 k1 k2 k3 n k5 hs
      obtain ⟨h1, h⟩ := ba h
      obtain ⟨h2, h⟩ := ba h
      obtain ⟨h3, h4⟩ := ba h
      have h1 := of_decide_eq_true h1
      have h2 := of_decide_eq_true h2
      obtain ⟨nm, bs, mro, ns, qn, hd, sn, sub, ab, col, del⟩ := cd
      dsimp only at h1 h3 h4
      have h3 : del = false := by simpa using h3
      subst h1 h2 h3 h4
      have hsl : sl = #[k0, k1, k2, k3, some (.builtin "Exception.__new__"), k5] := by
        obtain ⟨l⟩ := sl
        simp only at hs
        rw [hs]
      subst hsl
      exact ⟨nm, qn, ns, bs, sn, sub, ab, col, dd, k0, k1, k2, k3, k5, ho⟩
    · cases h
  · cases h
theorem excB_ok {K : Frag} {h : Heap} {mg : Str → Option Value} {x fl qual : Str} {st : Stmt} {f : Addr} {fd : FuncData} {p1 p2 q1 q2 q3 q4 : Pos} (X : K.In h) (G : h.Ns mainGlobals mg) (c : excB K x fl = true) (g : GotM K (ga K x) "__init__" qual st f fd)
    (hA : defArgs st = xA fl p1 p2) (hB : defBody st = xB fl q1 q2 q3 q4) (hS : defScope st = xS fl) : ExT K mg x fl qual (ga K x) (ga K "PlanError") f := by
  obtain ⟨c1, c⟩ := ba c
  obtain ⟨c2, c⟩ := ba c
  obtain ⟨c3, c⟩ := ba c
  obtain ⟨c4, c⟩ := ba c
  obtain ⟨c5, c⟩ := ba c
  obtain ⟨c6, c7⟩ := ba c
  obtain ⟨oc, od, kV, doc, pm, an, cdv, ct, osl, rfl, lk, hcd⟩ := g.F.ex
  rw [hA, hB, hS] at lk
  exact ⟨glo_ok X G c2, excObjB_ok c1, eqO_ok c3, eqO_ok c4, g.o.fn, beq_iff_eq.mp g.o.isf, c5, of_decide_eq_true c6, xfB_ok c7, ⟨oc, od, kV, doc, pm, an, cdv, ct, osl, p1, p2, q1, q2, q3, q4, lk, hcd⟩⟩
end Ps

/-! Constants behind the top: facts by a Bool. -/
namespace Ps
open PySem PySem.Spec PyProof.Rows PySem.W L2 He

theorem txtB_ok {K : Frag} {h : Heap} {mg : Str → Option Value} {x z : Str} (X : K.In h) (G : h.Ns mainGlobals mg) (c : txtB K x z = true) : ∃ t, mg x = some (.str z t) := by
  unfold txtB at c
  split at c
  · rename_i y t e
    obtain rfl := of_decide_eq_true c
    exact ⟨t, mg_of X G e⟩
  · cases c
theorem intB_ok {K : Frag} {h : Heap} {mg : Str → Option Value} {x : Str} {i : Int} (X : K.In h) (G : h.Ns mainGlobals mg) (c : intB K x i = true) : ∃ t, mg x = some (.int i t) := by
  unfold intB at c
  split at c
  · rename_i y t e
    obtain rfl := of_decide_eq_true c
    exact ⟨t, mg_of X G e⟩
  · cases c
end Ps

/-! == of tuples and dicts whose items may be own instances: both answers. -/
namespace Ps
open PySem PySem.Spec PyProof.Rows PySem.SeqAt
open AutoSeq1 (wpAny_loadPart')
open MeetsSeq MeetsSeq2 MeetsSeq3 SeqRoads2
section
variable {prog : Program} {w : World} {A : Around} {R : Result → Shared → Prop}
theorem tuple_eqB (l b : Addr) (items items2 : Array Value) (n n2 : Nat) (dd dd2 : Option Addr) (sl sl2 : Array (Option Value)) (J : Nat → Shared → Prop)
    (turn : ∀ i (h1 : i < items.size) (h2 : i < items2.size) s, J i s → wpAny (model prog w) A.in1 (eqBool items[i] items2[i]) (fun r s' => (r = true ∧ J (i + 1) s') ∨ (r = false ∧ R (.ok (.ret (.bool false))) s')) (fun e s' => R (.error e) s') s)
    (fin : ∀ s, J (min items.size items2.size) s → R (.ok (.ret (.bool (items.size == items2.size)))) s) {s : Shared} (hl1 : s.heap.get? l = some { cls := .type "tuple", dict := dd, data := .seq items n, slots := sl }) (hb1 : s.heap.get? b = some { cls := .type "tuple", dict := dd2, data := .seq items2 n2, slots := sl2 }) (h : J 0 s) :
    wpAny (model prog w) A.in1 (Builtin.«tuple.__eq__» ⟨[.ref l, .ref b], []⟩) (GQ.FinOf prog w A R) (fun e s' => R (.error e) s') s := by
  have f2 := AutoSeq1.sub_tuple_tuple
  have hZ : (items.toList.zip items2.toList).length = min items.size items2.size := by simp
  have h0 := h
  obtain ⟨hp, g, d, tk, os⟩ := s
  wp_walk using wpAny_loadPart' hl1, wpAny_loadPart' hb1, wpAny_forIn_list _ (fun rest b s' => b.1 = none ∧ ∃ i, rest = (items.toList.zip items2.toList).drop i ∧ i ≤ min items.size items2.size ∧ J i s') _
  case turn =>
    rintro ⟨y, x⟩ rest b s' ⟨hb', i, hz, hi, hI⟩
    have hlt : i < (items.toList.zip items2.toList).length := by
      rcases Nat.lt_or_ge i (items.toList.zip items2.toList).length with h' | h'
      · exact h'
      · rw [List.drop_of_length_le h'] at hz; cases hz
    have hm : i < min items.size items2.size := hZ ▸ hlt
    have h1 : i < items.size := Nat.lt_of_lt_of_le hm (Nat.min_le_left _ _)
    have h2 : i < items2.size := Nat.lt_of_lt_of_le hm (Nat.min_le_right _ _)
    rw [List.drop_eq_getElem_cons hlt] at hz
    injection hz with hyx hrest
    have hy : y = items[i] := by have := congrArg Prod.fst hyx; simpa using this
    have hx : x = items2[i] := by have := congrArg Prod.snd hyx; simpa using this
    subst hy hx
    refine wpAny_bind (wpAny_mono (turn i h1 h2 s' hI) (fun r s2 q2 => ?_) fun _ _ x => x)
    rcases q2 with ⟨hr, q2⟩ | ⟨hr, q2⟩
    · subst hr
      wp_walk
      exact ⟨rfl, i + 1, hrest, hm, q2⟩
    · subst hr
      wp_walk
      exact q2
  case fin =>
    rintro ⟨b1, b2⟩ s' ⟨hb', i, hz, hi, hI⟩
    simp only at hb'
    subst hb'
    have hge : min items.size items2.size ≤ i := by
      rcases Nat.lt_or_ge i (items.toList.zip items2.toList).length with h' | h'
      · rw [List.drop_eq_getElem_cons h'] at hz; cases hz
      · exact hZ ▸ h'
    have hi' : i = min items.size items2.size := by omega
    have hR := fin s' (hi' ▸ hI)
    wp_walk
    exact hR
  case h =>
    exact ⟨rfl, 0, rfl, Nat.zero_le _, h0⟩
theorem tuple_neB (l b : Addr) (items items2 : Array Value) (n n2 : Nat) (dd dd2 : Option Addr) (sl sl2 : Array (Option Value)) (J : Nat → Shared → Prop)
    (turn : ∀ i (h1 : i < items.size) (h2 : i < items2.size) s, J i s → wpAny (model prog w) A.in1 (eqBool items[i] items2[i]) (fun r s' => (r = true ∧ J (i + 1) s') ∨ (r = false ∧ R (.ok (.ret (.bool true))) s')) (fun e s' => R (.error e) s') s)
    (fin : ∀ s, J (min items.size items2.size) s → R (.ok (.ret (.bool (items.size != items2.size)))) s) {s : Shared} (hl1 : s.heap.get? l = some { cls := .type "tuple", dict := dd, data := .seq items n, slots := sl }) (hb1 : s.heap.get? b = some { cls := .type "tuple", dict := dd2, data := .seq items2 n2, slots := sl2 }) (h : J 0 s) :
    wpAny (model prog w) A.in1 (Builtin.«tuple.__ne__» ⟨[.ref l, .ref b], []⟩) (GQ.FinOf prog w A R) (fun e s' => R (.error e) s') s := by
  have f2 := AutoSeq1.sub_tuple_tuple
  have hZ : (items.toList.zip items2.toList).length = min items.size items2.size := by simp
  have h0 := h
  obtain ⟨hp, g, d, tk, os⟩ := s
  wp_walk using wpAny_loadPart' hl1, wpAny_loadPart' hb1, wpAny_forIn_list _ (fun rest b s' => b.1 = none ∧ ∃ i, rest = (items.toList.zip items2.toList).drop i ∧ i ≤ min items.size items2.size ∧ J i s') _
  case turn =>
    rintro ⟨y, x⟩ rest b s' ⟨hb', i, hz, hi, hI⟩
    have hlt : i < (items.toList.zip items2.toList).length := by
      rcases Nat.lt_or_ge i (items.toList.zip items2.toList).length with h' | h'
      · exact h'
      · rw [List.drop_of_length_le h'] at hz; cases hz
    have hm : i < min items.size items2.size := hZ ▸ hlt
    have h1 : i < items.size := Nat.lt_of_lt_of_le hm (Nat.min_le_left _ _)
    have h2 : i < items2.size := Nat.lt_of_lt_of_le hm (Nat.min_le_right _ _)
    rw [List.drop_eq_getElem_cons hlt] at hz
    injection hz with hyx hrest
    have hy : y = items[i] := by have := congrArg Prod.fst hyx; simpa using this
    have hx : x = items2[i] := by have := congrArg Prod.snd hyx; simpa using this
    subst hy hx
    refine wpAny_bind (wpAny_mono (turn i h1 h2 s' hI) (fun r s2 q2 => ?_) fun _ _ x => x)
    rcases q2 with ⟨hr, q2⟩ | ⟨hr, q2⟩
    · subst hr
      wp_walk
      exact ⟨rfl, i + 1, hrest, hm, q2⟩
    · subst hr
      wp_walk
      exact q2
  case fin =>
    rintro ⟨b1, b2⟩ s' ⟨hb', i, hz, hi, hI⟩
    simp only at hb'
    subst hb'
    have hge : min items.size items2.size ≤ i := by
      rcases Nat.lt_or_ge i (items.toList.zip items2.toList).length with h' | h'
      · rw [List.drop_eq_getElem_cons h'] at hz; cases hz
      · exact hZ ▸ h'
    have hi' : i = min items.size items2.size := by omega
    have hR := fin s' (hi' ▸ hI)
    wp_walk
    exact hR
  case h =>
    exact ⟨rfl, 0, rfl, Nat.zero_le _, h0⟩
end
section
variable {prog : Program} {w : World} {A : Around} {E : Value → Shared → Prop} {s : Shared}
theorem rc_tupB {l b : Addr} {items items2 : Array Value} {Q : Value → Shared → Prop} (hu : A.units < cLine) (J : Nat → Shared → Prop) (hl : s.heap.IsTuple l items) (hb : s.heap.IsTuple b items2)
    (turn : ∀ i (h1 : i < items.size) (h2 : i < items2.size) s, J i s → wpAny (model prog w) A.in1 (eqBool items[i] items2[i]) (fun r s' => (r = true ∧ J (i + 1) s') ∨ (r = false ∧ Q (.bool false) s')) E s)
    (fin : ∀ s, J (min items.size items2.size) s → Q (.bool (items.size == items2.size)) s) (h : J 0 s) : wpAny (model prog w) A (richCompare .Eq (.ref l) (.ref b)) Q E s := by
  obtain ⟨⟨cls, dd, data, sl⟩, ho, hc, n, hd⟩ := id hl
  obtain ⟨⟨cls2, dd2, data2, sl2⟩, ho2, hc2, n2, hd2⟩ := id hb
  simp only at hc hd hc2 hd2
  subst hc hd hc2 hd2
  refine wpAny_richCompare_same_room (op := .Eq) ⟨_, ho, rfl⟩ ⟨_, ho2, rfl⟩ F.slot_tuple_eq (GQ.call_here F.slot_tuple_eq ⟨_, ho, rfl⟩ F.entry_tuple_eq (F.args_tuple_eq_2 _ _) ?_) hu
  exact tuple_eqB (R := wants (fun v s' => v ≠ .notImplemented ∧ Q v s') E) l b items items2 n n2 dd dd2 sl sl2 J (fun i h1 h2 s q => wpAny_mono (turn i h1 h2 s q) (fun r s' z => z.elim .inl fun z => .inr ⟨z.1, (fun x => nomatch x), z.2⟩) fun _ _ x => x) (fun s' q => ⟨(fun x => nomatch x), fin s' q⟩) ho ho2 h
theorem rc_tupN {l b : Addr} {items items2 : Array Value} {Q : Value → Shared → Prop} (hu : A.units < cLine) (J : Nat → Shared → Prop) (hl : s.heap.IsTuple l items) (hb : s.heap.IsTuple b items2)
    (turn : ∀ i (h1 : i < items.size) (h2 : i < items2.size) s, J i s → wpAny (model prog w) A.in1 (eqBool items[i] items2[i]) (fun r s' => (r = true ∧ J (i + 1) s') ∨ (r = false ∧ Q (.bool true) s')) E s)
    (fin : ∀ s, J (min items.size items2.size) s → Q (.bool (items.size != items2.size)) s) (h : J 0 s) : wpAny (model prog w) A (richCompare .NotEq (.ref l) (.ref b)) Q E s := by
  obtain ⟨⟨cls, dd, data, sl⟩, ho, hc, n, hd⟩ := id hl
  obtain ⟨⟨cls2, dd2, data2, sl2⟩, ho2, hc2, n2, hd2⟩ := id hb
  simp only at hc hd hc2 hd2
  subst hc hd hc2 hd2
  refine wpAny_richCompare_same_room (op := .NotEq) ⟨_, ho, rfl⟩ ⟨_, ho2, rfl⟩ F.slot_tuple_ne (GQ.call_here F.slot_tuple_ne ⟨_, ho, rfl⟩ F.entry_tuple_ne (F.args_tuple_ne_2 _ _) ?_) hu
  exact tuple_neB (R := wants (fun v s' => v ≠ .notImplemented ∧ Q v s') E) l b items items2 n n2 dd dd2 sl sl2 J (fun i h1 h2 s q => wpAny_mono (turn i h1 h2 s q) (fun r s' z => z.elim .inl fun z => .inr ⟨z.1, (fun x => nomatch x), z.2⟩) fun _ _ x => x) (fun s' q => ⟨(fun x => nomatch x), fin s' q⟩) ho ho2 h
end
end Ps

/-! == of dicts whose values may be own instances: both answers, at the model's level. -/
namespace Ps
open PySem PySem.Spec PySem.W PySem.Calls PyProof.Rows PyProof.V
section
variable {prog : Program} {w : World} {κ : Type} [DecidableEq κ] {knd : KeyKind prog w κ} {A : Around} {E : Value → Shared → Prop} {s : Shared}
theorem samePairsB {nm : String} {a b : Addr} {oa ob : Obj} {ka kb : List (κ × Value)} {Q : Bool → Shared → Prop} (ha : (a == sysModules) = false) (hb : (b == sysModules) = false)
    (da : s.heap.DictOf knd a ka) (db : s.heap.DictOf knd b kb) (hoa0 : s.heap.get? a = some oa) (hob0 : s.heap.get? b = some ob) (J : Nat → Shared → Prop) (hJ : ∀ i s', J i s' → s'.heap.get? a = some oa ∧ s'.heap.get? b = some ob)
    (turn : ∀ (i : Nat) (k : κ) (v : Value) (s' : Shared), ka[i]? = some (k, v) → J i s' → (valueAt kb k = none → Q false s') ∧ ∀ y, valueAt kb k = some y → wpAny (model prog w) A (eqBool v y) (fun r s2 => (r = true ∧ J (i + 1) s2) ∨ (r = false ∧ Q false s2)) E s')
    (fin : ∀ s', J ka.length s' → Q true s') (h0 : ka.length = kb.length → J 0 s) (hne : ka.length ≠ kb.length → Q false s) :
    wpAny (model prog w) A (Builtin.Dict.samePairs nm a b) Q E s := by
  obtain ⟨oa', es, ep, hoa, _, hda, hka, hpa, _⟩ := da
  obtain ⟨ob', es', ep', hob, _, hdb, hkb, hpb, _⟩ := db
  cases hoa.symm.trans hoa0
  cases hob.symm.trans hob0
  have hla : ka.length = es.size := by rw [← hpa.length]; exact Array.length_toList
  have hlb : kb.length = es'.size := by rw [← hpb.length]; exact Array.length_toList
  have hfind : ∀ k, findBy knd.is es' k = valueAt kb k := fun k => by
    rw [← hpb.find k]
    clear hlb hpb hkb hdb hob hob0 hJ
    obtain ⟨l⟩ := es'
    simp [findBy]
  unfold Builtin.Dict.samePairs Builtin.Dict.showsAll
  rw [if_neg (show ¬ (a == sysModules) = true by rw [ha]; exact Bool.false_ne_true), if_neg (show ¬ (b == sysModules) = true by rw [hb]; exact Bool.false_ne_true)]
  refine wpAny_bind (wpAny_pure (wpAny_bind (wpAny_pure ?_)))
  refine wpAny_bind (wpAny_dictEntries hoa hda ?_)
  dsimp only
  refine wpAny_bind (wpAny_dictEntries hob hdb ?_)
  by_cases hsz : es.size = es'.size
  case neg =>
    rw [if_pos (by simpa using hsz)]
    exact wpAny_bind (wpAny_rule (wpAny_pure (hne (by rw [hla, hlb]; exact hsz))))
  case pos =>
    rw [if_neg (by rw [hsz]; simp)]
    refine wpAny_bind (wpAny_dictEpoch hoa hda ?_)
    refine wpAny_bind ?_
    rw [Std.Legacy.Range.forIn_eq_forIn_range']
    simp only [Std.Legacy.Range.size, Nat.sub_zero, Nat.add_sub_cancel, Nat.div_one]
    refine wpAny_forIn_list _
      (fun rest q s' => q = (none, ()) ∧ ∃ i, rest = List.range' i (es.size - i) ∧ i ≤ es.size ∧ J i s')
      _ ?_ ?_ _ _ ⟨rfl, 0, by simp, Nat.zero_le _, h0 (by rw [hla, hlb]; exact hsz)⟩
    · rintro x rest q s' ⟨rfl, i, hr, hi, hpre⟩
      obtain ⟨hoa', hob'⟩ := hJ i s' hpre
      have hlt : i < es.size := by
        rcases Nat.lt_or_ge i es.size with h | h
        · exact h
        · rw [Nat.sub_eq_zero_of_le h] at hr; simp at hr
      obtain ⟨rfl, hrest⟩ : x = i ∧ rest = List.range' (i + 1) (es.size - (i + 1)) := by
        have e : es.size - i = (es.size - (i + 1)) + 1 := by omega
        rw [e, List.range'_succ] at hr
        injection hr with h1 h2
        exact ⟨h1, h2⟩
      refine wpAny_bind (wpAny_dictEntries hoa' hda ?_)
      rw [Array.getElem?_eq_getElem hlt]
      have hlt' : x < ka.length := by rw [hla]; exact hlt
      obtain ⟨k, v, hkv⟩ : ∃ k v, ka[x] = (k, v) := ⟨_, _, rfl⟩
      have hget : ka[x]? = some (k, v) := by rw [List.getElem?_eq_getElem hlt', hkv]
      obtain ⟨hkey, hval⟩ := hpa.get? (i := x) (e := es[x]) (k := k) (v := v) (by rw [Array.getElem?_toList]; exact Array.getElem?_eq_getElem hlt) hget
      obtain ⟨k', hk', hh⟩ := hka es[x] (Array.getElem_mem hlt)
      have ekk : k' = k := knd.inj _ _ _ hk' hkey
      rw [ekk] at hh
      obtain ⟨tn, th⟩ := turn x k v s' hget hpre
      show wpAny _ _ (holding [es[x].key, es[x].val] _ >>= _) _ _ _
      rw [hh]
      refine wpAny_bind (wpAny_holding (wpAny_bind (wpAny_dictFind_of hkey hob' hdb hkb ?_)))
      cases hj : es'.findIdx? fun e => knd.is k e.key with
      | none =>
        have hn : valueAt kb k = none := by rw [← hfind k, findBy_of_findIdx?, hj]
        refine wpAny_pure ?_
        show wpAny _ _ (if (!false) = true then _ else _) _ _ _
        rw [if_pos (by decide)]
        exact wpAny_pure (wpAny_pure (tn hn))
      | some j =>
        obtain ⟨hjlt, _, _⟩ := Array.findIdx?_eq_some_iff_getElem.mp hj
        have hv' : valueAt kb k = some es'[j].val := by
          rw [← hfind k, findBy_of_findIdx?, hj]
          simp [Array.getElem?_eq_getElem hjlt]
        refine wpAny_bind (wpAny_dictEntries hob' hdb ?_)
        rw [Array.getElem?_eq_getElem hjlt]
        have he := th _ hv'
        rw [← hval] at he
        refine wpAny_holding (wpAny_mono he (fun r s2 q2 => ?_) fun _ _ x => x)
        rcases q2 with ⟨rfl, q2⟩ | ⟨rfl, q2⟩
        · obtain ⟨hoa2, _⟩ := hJ _ _ q2
          show wpAny _ _ (if (!true) = true then _ else _) _ _ _
          rw [if_neg (by decide)]
          refine wpAny_bind (wpAny_dictEpoch hoa2 hda ?_)
          rw [if_neg (by simp)]
          exact wpAny_pure ⟨rfl, x + 1, hrest, hlt, q2⟩
        · show wpAny _ _ (if (!false) = true then _ else _) _ _ _
          rw [if_pos (by decide)]
          exact wpAny_pure (wpAny_pure q2)
    · rintro q s' ⟨rfl, i, hr, hi, hpre⟩
      have hin : i = es.size := by
        rcases Nat.lt_or_ge i es.size with h | h
        · have e : es.size - i = (es.size - (i + 1)) + 1 := by omega
          rw [e, List.range'_succ] at hr; exact nomatch hr
        · exact Nat.le_antisymm hi h
      refine wpAny_pure ?_
      rw [hin, ← hla] at hpre
      exact fin s' hpre
theorem rc_dictB {a b : Addr} {oa ob : Obj} {ka kb : List (κ × Value)} {Q : Value → Shared → Prop} (ha : (a == sysModules) = false) (hb : (b == sysModules) = false)
    (da : s.heap.DictOf knd a ka) (db : s.heap.DictOf knd b kb) (hoa0 : s.heap.get? a = some oa) (hob0 : s.heap.get? b = some ob) (hu : A.units < cLine) (J : Nat → Shared → Prop) (hJ : ∀ i s', J i s' → s'.heap.get? a = some oa ∧ s'.heap.get? b = some ob)
    (turn : ∀ (i : Nat) (k : κ) (v : Value) (s' : Shared), ka[i]? = some (k, v) → J i s' → (valueAt kb k = none → Q (.bool false) s') ∧ ∀ y, valueAt kb k = some y → wpAny (model prog w) A.in1 (eqBool v y) (fun r s2 => (r = true ∧ J (i + 1) s2) ∨ (r = false ∧ Q (.bool false) s2)) E s')
    (fin : ∀ s', J ka.length s' → Q (.bool true) s') (h0 : ka.length = kb.length → J 0 s) (hne : ka.length ≠ kb.length → Q (.bool false) s) :
    wpAny (model prog w) A (richCompare .Eq (.ref a) (.ref b)) Q E s := by
  refine wpAny_richCompare_same_room (op := .Eq) da.typeIs db.typeIs PySem.F.slot_dict_eq (wpAny_call_entry PySem.F.slot_dict_eq da.typeIs PySem.F.entry_dict_eq ?_ (PySem.F.args_dict_eq_2 _ _)) hu
  show wpAny _ _ (Builtin.Dict.dictSlotArgs "__eq__" ⟨[.ref a, .ref b], []⟩ >>= _) _ _ s
  refine wpAny_bind ?_
  unfold Builtin.Dict.dictSlotArgs
  refine wpAny_bind (wpAny_notOrdered_dict da.typeIs ?_)
  show wpAny _ _ (pure (Value.ref a, Value.ref b)) _ _ s
  refine wpAny_pure ?_
  refine wpAny_bind (wpAny_isInstance (T := "dict") db.typeIs PySem.F.sub_dict_dict ?_)
  simp only [Bool.not_true, Bool.false_eq_true, if_false]
  refine wpAny_bind (wpAny_pure (wpAny_bind (wpAny_pure ?_)))
  refine wpAny_bind (samePairsB (Q := fun r s' => wpAny (model prog w) A.in1 (ret (.bool (r == true))) _ E s') ha hb da db hoa0 hob0 J hJ (fun i k v s' hg hj => ?_) (fun s' hj => ?_) h0 fun hn => ?_)
  · obtain ⟨t1, t2⟩ := turn i k v s' hg hj
    refine ⟨fun hn => wpAny_pure ⟨_, rfl, (fun x => nomatch x), by simpa using t1 hn⟩, fun y hy => wpAny_mono (t2 y hy) (fun r s2 z => z.imp id fun z => ⟨z.1, wpAny_pure ⟨_, rfl, (fun x => nomatch x), by simpa using z.2⟩⟩) fun _ _ x => x⟩
  · exact wpAny_pure ⟨_, rfl, (fun x => nomatch x), by simpa using fin s' hj⟩
  · exact wpAny_pure ⟨_, rfl, (fun x => nomatch x), by simpa using hne hn⟩
end
end Ps

/-! == of tuples and dicts whose items may be own instances: over the abstract heap. -/
namespace Ps
open PySem PySem.Spec PyProof.Rows PySem.W L2

abbrev Eqb := V → V → Bool → Hp → Prop
/-- all but dicts stay -/
def Nd (H H' : Hp) : Prop := ∀ a o, H a = some o → (∀ kvs, o ≠ .dK kvs) → H' a = some o
theorem Nd.of {H H' : Hp} (e : Same H H') : Nd H H' := fun a o h _ => e a o h
theorem Nd.trans {H H1 H2 : Hp} (e : Nd H H1) (e' : Nd H1 H2) : Nd H H2 := fun a o h n => e' a o (e a o h n) n
theorem Nd.rd {H H' : Hp} {a : Addr} {o : HO} (e : Nd H H') (n : ∀ kvs, o ≠ .dK kvs) (h : Rd H a o) : Rd H' a o := h.elim (fun h => .inl (e _ _ h n)) fun ⟨o', h⟩ => .inr ⟨o', e _ _ h (fun _ z => nomatch z)⟩
theorem Nd.tup {K : Frag} {H H' : Hp} {a : Addr} {xs : List V} (e : Nd H H') (h : SqT K H a xs) : SqT K H' a xs := h.elim (fun h => .inl (e.rd (fun _ z => nomatch z) h)) .inr
theorem Nd.lst {K : Frag} {H H' : Hp} {a : Addr} {xs : List V} (e : Nd H H') (h : SqL K H a xs) : SqL K H' a xs := h.elim (fun h => .inl (e.rd (fun _ z => nomatch z) h)) .inr
def MonB (D : Eqb) : Prop := ∀ x y b H H', Nd H H' → D x y b H → D x y b H'
def EqB (X : Cx) (n : Nat) (D : Eqb) : Prop :=
  ∀ (A : Around) (pins : List (Addr × Obj)) (s : Shared) (σ : L2.St) (H : Hp) (x y : V) (b : Bool) (u v : Value), Sub X n A → L2.Inv X pins σ H s → RelV x u → RelV y v → D x y b H →
    wpAny (model X.prog X.w) A (eqBool u v) (fun r s' => r = b ∧ ∃ H', L2.Inv X pins σ H' s' ∧ Same H H') X.xe s
def RcB (X : Cx) (n : Nat) (D : Eqb) : Prop :=
  ∀ (A : Around) (pins : List (Addr × Obj)) (s : Shared) (σ : L2.St) (H : Hp) (x y : V) (b : Bool) (u v : Value), Sub X n A → L2.Inv X pins σ H s → RelV x u → RelV y v → D x y b H →
    wpAny (model X.prog X.w) A (richCompare .Eq u v) (fun r s' => r = .bool b ∧ ∃ H', L2.Inv X pins σ H' s' ∧ Same H H') X.xe s
section
variable {X : Cx} {n m : Nat} {D D' : Eqb}
theorem EqB.mono (h : EqB X n D) (hn : n ≤ m) : EqB X m D := fun A pins s σ H x y b u v sb => h A pins s σ H x y b u v (sb.mono hn)
theorem RcB.mono (h : RcB X n D) (hn : n ≤ m) : RcB X m D := fun A pins s σ H x y b u v sb => h A pins s σ H x y b u v (sb.mono hn)
theorem EqB.or (h : EqB X n D) (h' : EqB X n D') : EqB X n (fun x y b H => D x y b H ∨ D' x y b H) := fun A pins s σ H x y b u v sb I rx ry d =>
  d.elim (fun d => h A pins s σ H x y b u v sb I rx ry d) fun d => h' A pins s σ H x y b u v sb I rx ry d
theorem MonB.or (h : MonB D) (h' : MonB D') : MonB (fun x y b H => D x y b H ∨ D' x y b H) := fun x y b H H' e d => d.elim (fun d => .inl (h x y b H H' e d)) fun d => .inr (h' x y b H H' e d)
theorem RcB.eqB (h : RcB X n D) (hr : ∀ x y b H, D x y b H → ∃ a c, x = .ref a ∧ y = .ref c ∧ (a = c → b = true)) : EqB X n D := by
  intro A pins s σ H x y b u v sb I rx ry d
  obtain ⟨a, c, rfl, rfl, hs⟩ := hr _ _ _ _ d
  cases rx
  cases ry
  by_cases hab : a = c
  · have hb := hs hab
    subst hab
    exact SeqAt.EqAt.same (A := A) (s := s) (.ref a) X.prog X.w X.xe _ ⟨hb.symm, H, I, Same.refl _⟩
  · refine GQ.eqBool_refG hab (wpAny_mono (h A pins s σ H (.ref a) (.ref c) b _ _ sb I rfl rfl d) (fun r s' q => ?_) fun _ _ x => x)
    exact ⟨b, q.1, rfl, q.2⟩
/-! flat values -/
def DFl : Eqb := fun x y b _ => flatV x = true ∧ flatV y = true ∧ b = eqV x y
theorem mon_fl : MonB DFl := fun _ _ _ _ _ _ d => d
theorem eqB_fl : EqB X 0 DFl := by
  intro A pins s σ H x y b u v sb I rx ry d
  obtain ⟨fx, fy, e⟩ := d
  subst e
  exact eqAt_V (A := A) (s := s) rx ry fx fy X.prog X.w X.xe _ ⟨rfl, H, I, Same.refl _⟩
/-! a text and a tuple -/
def DFT (K : Frag) : Eqb := fun x y b H => b = false ∧ ∃ z a xs, SqT K H a xs ∧ ((x = .str z ∧ y = .ref a) ∨ (y = .str z ∧ x = .ref a))
theorem mon_ft {K : Frag} : MonB (DFT K) := fun x y b H H' e d => by
  obtain ⟨hb, z, a, xs, h, k⟩ := d
  exact ⟨hb, z, a, xs, e.tup h, k⟩
theorem eqB_ft : EqB X 0 (DFT X.K) := by
  intro A pins s σ H x y b u v sb I rx ry d
  obtain ⟨rfl, z, a, xs, h, ⟨rfl, rfl⟩ | ⟨rfl, rfl⟩⟩ := d
  · obtain ⟨its, r, p, _⟩ := I.tuple h
    obtain ⟨t, rfl⟩ := rx
    cases ry
    exact SeqAt.EqAt.str_tuple z t p sb.room.units0 X.prog X.w X.xe _ ⟨rfl, H, I, Same.refl _⟩
  · obtain ⟨its, r, p, _⟩ := I.tuple h
    obtain ⟨t, rfl⟩ := ry
    cases rx
    exact SeqAt.EqAt.tuple_str z t p sb.room.units0 X.prog X.w X.xe _ ⟨rfl, H, I, Same.refl _⟩
/-! item by item -/
inductive PrsB (D : Eqb) (H : Hp) : List V → List V → Bool → Prop
  | nil : PrsB D H [] [] true
  | left {y : V} {ys : List V} : PrsB D H [] (y :: ys) false
  | right {x : V} {xs : List V} : PrsB D H (x :: xs) [] false
  | no {x y : V} {xs ys : List V} : D x y false H → PrsB D H (x :: xs) (y :: ys) false
  | yes {x y : V} {xs ys : List V} {b : Bool} : D x y true H → PrsB D H xs ys b → PrsB D H (x :: xs) (y :: ys) b
theorem PrsB.mon (hD : MonB D) {H H' : Hp} (e : Nd H H') {xs ys : List V} {b : Bool} (p : PrsB D H xs ys b) : PrsB D H' xs ys b := by
  induction p with
  | nil => exact .nil
  | left => exact .left
  | right => exact .right
  | no d => exact .no (hD _ _ _ _ _ e d)
  | yes d _ ih => exact .yes (hD _ _ _ _ _ e d) ih
def DTupB (K : Frag) (D : Eqb) : Eqb := fun x y b H => ∃ a c xs ys, x = .ref a ∧ y = .ref c ∧ SqT K H a xs ∧ SqT K H c ys ∧ PrsB D H xs ys b ∧ (a = c → b = true)
theorem mon_tupB {K : Frag} (hD : MonB D) : MonB (DTupB K D) := fun x y b H H' e d => by
  obtain ⟨a, c, xs, ys, hx, hy, h1, h2, p, q⟩ := d
  exact ⟨a, c, xs, ys, hx, hy, e.tup h1, e.tup h2, p.mon hD e, q⟩
theorem prs_end {H : Hp} {xs ys : List V} {b : Bool} {i : Nat} (hi : i = min xs.length ys.length) (p : PrsB D H (xs.drop i) (ys.drop i) b) : b = (xs.length == ys.length) := by
  have h : (xs.drop i).length = 0 ∨ (ys.drop i).length = 0 := by
    rw [List.length_drop, List.length_drop]
    omega
  have l1 : (xs.drop i).length = xs.length - i := List.length_drop ..
  have l2 : (ys.drop i).length = ys.length - i := List.length_drop ..
  cases hx : xs.drop i with
  | nil =>
    cases hy : ys.drop i with
    | nil =>
      rw [hx, hy] at p
      rw [hx] at l1
      rw [hy] at l2
      simp only [List.length_nil] at l1 l2
      have e : xs.length = ys.length := by omega
      cases p
      rw [e]
      simp
    | cons y r =>
      rw [hx, hy] at p
      rw [hx] at l1
      rw [hy] at l2
      simp only [List.length_nil, List.length_cons] at l1 l2
      have e : xs.length ≠ ys.length := by omega
      cases p
      simp [e]
  | cons x r =>
    cases hy : ys.drop i with
    | nil =>
      rw [hx, hy] at p
      rw [hx] at l1
      rw [hy] at l2
      simp only [List.length_nil, List.length_cons] at l1 l2
      have e : xs.length ≠ ys.length := by omega
      cases p
      simp [e]
    | cons y t =>
      rw [hx, hy] at h
      simp at h
theorem turnB (hD : MonB D) (h : EqB X n D) {A : Around} (sb : Sub X (n + 1) A) {pins : List (Addr × Obj)} {σ : L2.St} {H : Hp} {xs ys : List V} {b : Bool} {its its2 : List Value} {P : Shared → Prop} (r : Vals xs its) (r2 : Vals ys its2)
    (fin : b = false → ∀ s' H', L2.Inv X pins σ H' s' → Same H H' → P s')
    (i : Nat) (h1 : i < its.toArray.size) (h2 : i < its2.toArray.size) (s' : Shared) (l : (∃ H', L2.Inv X pins σ H' s' ∧ Same H H') ∧ PrsB D H (xs.drop i) (ys.drop i) b) :
    wpAny (model X.prog X.w) A.in1 (eqBool its.toArray[i] its2.toArray[i]) (fun r s2 => (r = true ∧ (∃ H', L2.Inv X pins σ H' s2 ∧ Same H H') ∧ PrsB D H (xs.drop (i + 1)) (ys.drop (i + 1)) b) ∨ (r = false ∧ P s2)) X.xe s' := by
  obtain ⟨⟨H1, I1, e1⟩, p⟩ := l
  have g1 : its[i]? = some its.toArray[i] := by
    have h1' : i < its.length := by simpa using h1
    rw [List.getElem?_eq_getElem h1'] <;> simp
  have g2 : its2[i]? = some its2.toArray[i] := by
    have h2' : i < its2.length := by simpa using h2
    rw [List.getElem?_eq_getElem h2'] <;> simp
  have k1 : i < xs.length := by rw [r.length]; simpa using h1
  have k2 : i < ys.length := by rw [r2.length]; simpa using h2
  obtain ⟨u, hu, ru⟩ := r.get (List.getElem?_eq_getElem k1)
  obtain ⟨v, hv, rv⟩ := r2.get (List.getElem?_eq_getElem k2)
  rw [g1] at hu
  rw [g2] at hv
  rw [Option.some.inj hu, Option.some.inj hv]
  rw [List.drop_eq_getElem_cons k1, List.drop_eq_getElem_cons k2] at p
  cases p with
  | no d =>
    refine wpAny_mono (h A.in1 pins s' σ H1 _ _ _ u v sb.in1 I1 ru rv (hD _ _ _ _ _ (Nd.of e1) d)) (fun r s2 q => ?_) fun _ _ x => x
    obtain ⟨hr, H2, I2, e2⟩ := q
    exact .inr ⟨hr, fin rfl s2 H2 I2 (e1.trans e2)⟩
  | yes d p =>
    refine wpAny_mono (h A.in1 pins s' σ H1 _ _ _ u v sb.in1 I1 ru rv (hD _ _ _ _ _ (Nd.of e1) d)) (fun r s2 q => ?_) fun _ _ x => x
    obtain ⟨hr, H2, I2, e2⟩ := q
    exact .inl ⟨hr, ⟨H2, I2, e1.trans e2⟩, p⟩
theorem rcB_tup (hD : MonB D) (h : EqB X n D) : RcB X (n + 1) (DTupB X.K D) := by
  intro A pins s σ H x y b u v sb I rx ry d
  obtain ⟨a, c, xs, ys, rfl, rfl, ha, hc, p, _⟩ := d
  cases rx
  cases ry
  obtain ⟨its, r, e, z⟩ := I.tuple ha
  obtain ⟨its2, r2, e2, z2⟩ := I.tuple hc
  refine rc_tupB sb.room.units0 (fun i s' => (∃ H', L2.Inv X pins σ H' s' ∧ Same H H') ∧ PrsB D H (xs.drop i) (ys.drop i) b) e e2 (turnB hD h sb r r2 fun hb s' H' I' e' => ⟨by rw [hb], H', I', e'⟩) (fun s' q => ?_) ⟨⟨H, I, Same.refl _⟩, p⟩
  obtain ⟨⟨H', I', e'⟩, p⟩ := q
  refine ⟨?_, H', I', e'⟩
  rw [prs_end (by rw [List.size_toArray, List.size_toArray, ← r.length, ← r2.length]) p, List.size_toArray, List.size_toArray, ← r.length, ← r2.length]
theorem eqB_tup (hD : MonB D) (h : EqB X n D) : EqB X (n + 1) (DTupB X.K D) := (rcB_tup hD h).eqB fun _ _ _ _ d => let ⟨a, c, _, _, hx, hy, _, _, _, q⟩ := d; ⟨a, c, hx, hy, q⟩
/-- != of two tuples -/
theorem op_neTup (hD : MonB D) (h : EqB X n D) (hr : Room (n + 1) X.A) : OpR X (compareOp .NotEq) (fun x y H Q => ∃ b, DTupB X.K D x y b H ∧ ∀ H', Same H H' → Q (.bl (!b)) H') := by
  intro pins s σ H x y u v Q I rx ry d
  obtain ⟨b, ⟨a, c, xs, ys, rfl, rfl, ha, hc, p, _⟩, k⟩ := d
  cases rx
  cases ry
  obtain ⟨its, r, e, z⟩ := I.tuple ha
  obtain ⟨its2, r2, e2, z2⟩ := I.tuple hc
  show wpAny _ _ (richCompare .NotEq _ _) _ _ _
  refine rc_tupN hr.units0 (fun i s' => (∃ H', L2.Inv X pins σ H' s' ∧ Same H H') ∧ PrsB D H (xs.drop i) (ys.drop i) b) e e2 (turnB hD h (⟨hr, rfl⟩ : Sub X (n + 1) X.A) r r2 fun hb s' H' I' e' => ⟨.bl true, H', I', rfl, by have := k H' e'; rw [hb] at this; exact this⟩) (fun s' q => ?_) ⟨⟨H, I, Same.refl _⟩, p⟩
  obtain ⟨⟨H', I', e'⟩, p⟩ := q
  refine ⟨.bl (!b), H', I', ?_, k H' e'⟩
  rw [prs_end (by rw [List.size_toArray, List.size_toArray, ← r.length, ← r2.length]) p, List.size_toArray, List.size_toArray, ← r.length, ← r2.length]
  rfl
/-! dicts -/
inductive EqD (D : Eqb) (H : Hp) (ls : List (Key × V)) : List (Key × V) → Bool → Prop
  | nil : EqD D H ls [] true
  | miss {k : Key} {v : V} {r : List (Key × V)} : valV ls k = none → EqD D H ls ((k, v) :: r) false
  | no {k : Key} {v y : V} {r : List (Key × V)} : valV ls k = some y → D v y false H → EqD D H ls ((k, v) :: r) false
  | yes {k : Key} {v y : V} {r : List (Key × V)} {b : Bool} : valV ls k = some y → D v y true H → EqD D H ls r b → EqD D H ls ((k, v) :: r) b
theorem EqD.mon (hD : MonB D) {H H' : Hp} (e : Nd H H') {ls ks : List (Key × V)} {b : Bool} (p : EqD D H ls ks b) : EqD D H' ls ks b := by
  induction p with
  | nil => exact .nil
  | miss h => exact .miss h
  | no h d => exact .no h (hD _ _ _ _ _ e d)
  | yes h d _ ih => exact .yes h (hD _ _ _ _ _ e d) ih
def DDct (D : Eqb) : Eqb := fun x y b H => ∃ a c ks ls, x = .ref a ∧ y = .ref c ∧ a ≠ c ∧ H a = some (.dK ks) ∧ H c = some (.dK ls) ∧ ((ks.length ≠ ls.length ∧ b = false) ∨ (ks.length = ls.length ∧ EqD D H ls ks b))
theorem rcB_dct (hD : MonB D) (h : EqB X n D) : RcB X (n + 1) (DDct D) := by
  intro A pins s σ H x y b u v sb I rx ry d
  obtain ⟨a, c, ks, ls, rfl, rfl, hac, ha, hc, p⟩ := d
  cases rx
  cases ry
  have ma : Mut (some (HO.dK ks)) := trivial
  have mc : Mut (some (HO.dK ls)) := trivial
  obtain ⟨oa, I1⟩ := I.lock ha ma
  have hc1 : (upd H a (.frz oa (.dK ks))) c = some (.dK ls) := by rw [upd_ne (Ne.symm hac)]; exact hc
  obtain ⟨oc, I2⟩ := I1.lock hc1 mc
  have ha2 : (upd (upd H a (.frz oa (.dK ks))) c (.frz oc (.dK ls))) a = some (.frz oa (.dK ks)) := by rw [upd_ne hac, upd_same]
  have hc2 : (upd (upd H a (.frz oa (.dK ks))) c (.frz oc (.dK ls))) c = some (.frz oc (.dK ls)) := upd_same
  have nd : Nd H (upd (upd H a (.frz oa (.dK ks))) c (.frz oc (.dK ls))) := fun e o he hn => by
    have n1 : e ≠ a := fun z => by rw [z, ha] at he; exact hn _ (Option.some.inj he).symm
    have n2 : e ≠ c := fun z => by rw [z, hc] at he; exact hn _ (Option.some.inj he).symm
    rw [upd_ne n2, upd_ne n1]
    exact he
  have back : ∀ s' H', L2.Inv X pins σ H' s' → Same (upd (upd H a (.frz oa (.dK ks))) c (.frz oc (.dK ls))) H' → ∃ H3, L2.Inv X pins σ H3 s' ∧ Same H H3 := fun s' H' I' e' => by
    have J1 := I'.unlock (e' _ _ hc2) (I1.nofrz hc1 mc)
    have J2 := J1.unlock (d := a) (od := oa) (u := .dK ks) (by rw [upd_ne hac]; exact e' _ _ ha2) (I.nofrz ha ma)
    refine ⟨_, J2, fun e o he => ?_⟩
    by_cases n1 : e = a
    · rw [n1] at he ⊢
      rw [upd_same]
      exact ha.symm.trans he
    · rw [upd_ne n1]
      by_cases n2 : e = c
      · rw [n2] at he ⊢
        rw [upd_same]
        exact hc.symm.trans he
      · rw [upd_ne n2]
        exact e' _ _ (by rw [upd_ne n2, upd_ne n1]; exact he)
  generalize (upd (upd H a (.frz oa (.dK ks))) c (.frz oc (.dK ls))) = H2 at *
  obtain ⟨hoa, _, ya, va, ra, da⟩ := (show ObjOk X.prog X.w H2 s.heap a (.frz oa (.dK ks)) from I2.hok a _ ha2)
  obtain ⟨hoc, _, yc, vc, rc, dc⟩ := (show ObjOk X.prog X.w H2 s.heap c (.frz oc (.dK ls)) from I2.hok c _ hc2)
  refine rc_dictB (knd := mixKind X.prog X.w) ya yc da dc hoa hoc sb.room.units0 (fun i s' => (∃ H', L2.Inv X pins σ H' s' ∧ Same H2 H') ∧ EqD D H2 ls (ks.drop i) b) (fun i s' q => ?_) (fun i k v s' hg q => ?_) (fun s' q => ?_) (fun hl => ?_) (fun hl => ?_)
  · obtain ⟨⟨H', I', e'⟩, _⟩ := q
    exact ⟨(show ObjOk X.prog X.w H' s'.heap a (.frz oa (.dK ks)) from I'.hok a _ (e' _ _ ha2)).1, (show ObjOk X.prog X.w H' s'.heap c (.frz oc (.dK ls)) from I'.hok c _ (e' _ _ hc2)).1⟩
  · obtain ⟨⟨H', I', e'⟩, q⟩ := q
    obtain ⟨x, hx, rx⟩ := KV.at' ra hg
    have hi' := (List.getElem?_eq_some_iff.mp hx).1
    rw [List.drop_eq_getElem_cons hi', (List.getElem?_eq_some_iff.mp hx).2] at q
    have hv := rc.val k
    cases q with
    | miss hn =>
      rw [hn] at hv
      exact ⟨fun _ => ⟨rfl, back s' H' I' e'⟩, fun y hy => by rw [hy] at hv; exact hv.elim⟩
    | no hy d =>
      rw [hy] at hv
      refine ⟨fun hn => by rw [hn] at hv; exact hv.elim, fun y' hy' => ?_⟩
      rw [hy'] at hv
      refine wpAny_mono (h A.in1 pins s' σ H' _ _ _ v y' sb.in1 I' rx hv (hD _ _ _ _ _ (Nd.of e') d)) (fun r s2 z => ?_) fun _ _ x => x
      obtain ⟨hr, H3, I3, e3⟩ := z
      exact .inr ⟨hr, rfl, back s2 H3 I3 (e'.trans e3)⟩
    | yes hy d q =>
      rw [hy] at hv
      refine ⟨fun hn => by rw [hn] at hv; exact hv.elim, fun y' hy' => ?_⟩
      rw [hy'] at hv
      refine wpAny_mono (h A.in1 pins s' σ H' _ _ _ v y' sb.in1 I' rx hv (hD _ _ _ _ _ (Nd.of e') d)) (fun r s2 z => ?_) fun _ _ x => x
      obtain ⟨hr, H3, I3, e3⟩ := z
      exact .inl ⟨hr, ⟨H3, I3, e'.trans e3⟩, q⟩
  · obtain ⟨⟨H', I', e'⟩, q⟩ := q
    rw [← ra.length, List.drop_length] at q
    cases q
    exact ⟨rfl, back s' H' I' e'⟩
  · rcases p with ⟨hn, _⟩ | ⟨_, q⟩
    · exact absurd (by rw [ra.length, rc.length]; exact hl) hn
    · exact ⟨⟨H2, I2, Same.refl _⟩, q.mon hD nd⟩
  · rcases p with ⟨_, hb⟩ | ⟨hl', _⟩
    · exact ⟨by rw [hb], back s H2 I2 (Same.refl _)⟩
    · exact absurd (by rw [← ra.length, ← rc.length]; exact hl') hl
/-- x == y as an expression -/
def rEqB (D : Eqb) : R2 := fun x y H Q => ∃ b, D x y b H ∧ ∀ H', Same H H' → Q (.bl b) H'
theorem op_eqB (h : RcB X n D) (hr : Room n X.A) : OpR X (compareOp .Eq) (rEqB D) := by
  intro pins s σ H x y v u Q I rx ry hq
  obtain ⟨b, d, q⟩ := hq
  show wpAny (model X.prog X.w) X.A (richCompare .Eq v u) (EP X pins σ Q) X.xe s
  refine wpAny_mono (h X.A pins s σ H x y b v u ⟨hr, rfl⟩ I rx ry d) (fun r s' z => ?_) fun _ _ x => x
  obtain ⟨hr', H', I', e⟩ := z
  subst hr'
  exact ⟨.bl b, H', I', rfl, q H' e⟩
/-! own instances -/
def DOwn (C : Addr) (R : Eqb) : Eqb := fun x y b H => ∃ a c dx dy fs gs, x = .ref a ∧ y = .ref c ∧ H a = some (.ins C dx fs) ∧ H c = some (.ins C dy gs) ∧ R x y b H ∧ (a = c → b = true)
theorem mon_own {C : Addr} {R : Eqb} (hR : MonB R) : MonB (DOwn C R) := fun x y b H H' e d => by
  obtain ⟨a, c, dx, dy, fs, gs, hx, hy, h1, h2, r, q⟩ := d
  exact ⟨a, c, dx, dy, fs, gs, hx, hy, e _ _ h1 (fun _ z => nomatch z), e _ _ h2 (fun _ z => nomatch z), hR _ _ _ _ _ e r, q⟩
theorem rcB_own {Z : Cz} {C : Addr} {k : Nat} {ps : List Str} {sp : Sp} {R : Eqb} (cal : CalS Z CX0 k C "__eq__" ps sp) (hsp : ∀ x y b H Q, R x y b H → (∀ H', Same H H' → Q (.bl b) H') → sp [x, y] H Q E0) (z : InZ Z X := by exact ⟨rfl, rfl, rfl, rfl, rfl⟩) : RcB X k (DOwn C R) := by
  obtain ⟨f, fd, G, O, hb⟩ := cal
  have F := z.ok G
  rw [← z.K] at O hb
  intro A pins s σ H x y b u v sb I rx ry d
  obtain ⟨a, c, dx, dy, fs, gs, rfl, rfl, ha, hc', hr, _⟩ := d
  cases rx
  cases ry
  obtain ⟨mA, J, _⟩ := ins_get I.hok ha
  obtain ⟨mB, J', _⟩ := ins_get I.hok hc'
  obtain ⟨od, J, _⟩ := J.look
  obtain ⟨od', J', _⟩ := J'.look
  obtain ⟨m, hF⟩ := I.fr
  refine PySem.W.cmp_K (op := .Eq) (tb := .ref C) sb.room.units0 hF I.ok.mod.kin J J'.type (by simp [PySem.W.notFirst]) O.fn O.isf ?_
  have hs := hsp _ _ _ _ (fun v H' => v = .bl b ∧ Same H H') hr fun H' e => ⟨rfl, e⟩
  have e0 : Env0 X.prog X.w X.K X.mg X.base A X.stack s H := by
    have e := I.env0
    exact ⟨by rw [sb.fr]; exact e.frames, e.mod, e.bs, e.bsz, e.funs, e.frf, e.hok, e.bare⟩
  have hl := F.len _ _ _ _ hs
  have r2 : Vals [V.ref a, V.ref c] [Value.ref a, Value.ref c] := .cons rfl (.cons rfl .nil)
  refine wpAny_call (codeAny_mono (F.run A X.stack s H ⟨[.ref a, .ref c], []⟩ [.ref a, .ref c] [.ref a, .ref c] _ E0 sb.room e0 (by
    have := hb s [.ref a, .ref c] I.kIn (by simpa using hl)
    simpa using this) r2 hs) fun r s' hq => ?_)
  cases r with
  | error e => exact (pass0 (X := X)) pins σ H s e s' I hq
  | ok fl =>
    cases fl with
    | ret w =>
      obtain ⟨z, H', I', rz, ez, ex⟩ := I.after hq
      subst ez
      cases rz
      exact ⟨rfl, H', I', ex⟩
    | next => exact False.elim hq
    | brk => exact False.elim hq
    | cont => exact False.elim hq
theorem eqB_own {Z : Cz} {C : Addr} {k : Nat} {ps : List Str} {sp : Sp} {R : Eqb} (cal : CalS Z CX0 k C "__eq__" ps sp) (hsp : ∀ x y b H Q, R x y b H → (∀ H', Same H H' → Q (.bl b) H') → sp [x, y] H Q E0) (z : InZ Z X := by exact ⟨rfl, rfl, rfl, rfl, rfl⟩) : EqB X k (DOwn C R) :=
  (rcB_own cal hsp z).eqB fun _ _ _ _ d => let ⟨a, c, _, _, _, _, hx, hy, _, _, _, q⟩ := d; ⟨a, c, hx, hy, q⟩
end
end Ps

/-! Dict displays that begin with another dict's pairs: {**d, k: v}, {**d, **e}. -/
namespace Ps
open PySem PySem.Spec PyProof.Rows PySem.W L2
section
variable {prog : Program} {w : World} {K : Type} [DecidableEq K] {knd : KeyKind prog w K} {A : Around} {E : Value → Shared → Prop} {s : Shared}
theorem dictPut_pairs {d : Addr} {kvs : List (K × Value)} {k : K} {key v : Value} {Q : Unit → Shared → Prop} (hkey : knd.is k key = true) (hm : s.heap.DictOf knd d kvs)
    (hQ : ∀ h', h'.DictOf knd d (stored kvs k v) → Heap.SameBut d s.heap h' → Q () { s with heap := h' }) (hsz : kvs.length ≤ sizeLine) :
    wpAny (model prog w) A (dictPut d (knd.hash k) key v) Q E s := by
  obtain ⟨o, es, ep, ho, hc, hd, hk, hp, hn⟩ := hm
  have hes : es.size ≤ sizeLine := by have e1 := hp.length; have e2 : es.toList.length = es.size := by simp
                                      omega
  unfold dictPut
  refine wpAny_bind (wpAny_dictFind_of hkey ho hd hk ?_)
  have hidx : (es.findIdx? fun e => knd.is k e.key) = kvs.findIdx? fun kv => decide (kv.1 = k) := by
    rw [← hp.findIdx k]; obtain ⟨l⟩ := es; simp
  cases hi : es.findIdx? fun e => knd.is k e.key with
  | some i =>
    refine wpAny_updateDict ho hd (hQ _ ⟨_, _, ep, Heap.get?_update_self _ ho (Obj.isFreed_of_dict (Obj.data_mapDict hd _)),
      hc.mapDict _, Obj.data_mapDict hd _, hk.modify _ _, ?_, ?_⟩ (Heap.SameBut.update ..))
    · rw [stored, if_pos (any_of_findIdx_some (hidx ▸ hi))]
      have hl : (es.toList.findIdx? fun e => knd.is k e.key) = some i := by rw [← hi]; obtain ⟨l⟩ := es; simp
      have := hp.modify hn hl v
      obtain ⟨l⟩ := es
      simpa using this
    · rw [stored, if_pos (any_of_findIdx_some (hidx ▸ hi)), keys_map_store]; exact hn
  | none =>
    have hnot : k ∉ kvs.map (·.1) := not_mem_of_findIdx_none (hidx ▸ hi)
    have hany : ¬ (kvs.any fun kv => decide (kv.1 = k)) = true := by
      rw [List.any_eq_true]; rintro ⟨kv, hkv, he⟩
      exact hnot (List.mem_map.mpr ⟨kv, hkv, of_decide_eq_true he⟩)
    refine wpAny_updateDictKeys (hz := hes) ho hd (hQ _ ⟨_, _, ep + 1, Heap.get?_update_self _ ho (Obj.isFreed_of_dict (Obj.data_mapDictKeys hd _)),
      hc.mapDictKeys _, Obj.data_mapDictKeys hd _, hk.push hkey _, ?_, ?_⟩ (Heap.SameBut.update ..))
    · rw [stored, if_neg hany]
      have := hp.append hkey (knd.hash k) v
      obtain ⟨l⟩ := es
      simpa using this
    · rw [stored, if_neg hany, List.map_append, List.nodup_append]
      refine ⟨hn, by simp, ?_⟩
      intro a ha b hb
      simp only [List.map_cons, List.map_nil, List.mem_singleton] at hb
      subst hb
      exact fun e => hnot (e ▸ ha)
theorem mergeMapping_pairs {d o : Addr} {kvs more : List (K × Value)} {Q : Unit → Shared → Prop} (hkr : ∀ k v, knd.is k v = true → ∀ a, v ≠ .ref a) (hdo : d ≠ o) (hoS : (o == sysModules) = false)
    (hd : s.heap.DictOf knd d kvs) (ho : s.heap.DictOf knd o more) (hsz : kvs.length + more.length ≤ sizeLine)
    (hQ : ∀ h', h'.DictOf knd d (merged kvs more) → Heap.SameBut d s.heap h' → Q () { s with heap := h' }) :
    wpAny (model prog w) A (mergeMapping d (.ref o) false) Q E s := by
  obtain ⟨od, esd, epd, hod, hcd, hdd, hkd, hpd, hnd⟩ := id hd
  obtain ⟨oo, eso, epo, hoo, hco, hdo', hko, hpo, hno⟩ := id ho
  have hlen : more.length = eso.size := by rw [← hpo.length]; simp
  unfold mergeMapping
  refine wpAny_bind (m := isInstance (.ref o) (.type "dict")) (wpAny_isInstance ho.typeIs PySem.F.sub_dict_dict ?_)
  dsimp only
  rw [if_pos rfl]
  refine wpAny_bind (m := specialOf (.ref o) "__iter__") (wpAny_specialOf ho.typeIs PySem.F.slot_dict_iter.lookup ?_)
  refine wpAny_bind (wpAny_pure ?_)
  simp only [beq_self_eq_true]
  rw [if_neg (show ¬ (o == sysModules) = true by rw [hoS]; exact Bool.false_ne_true)]
  refine wpAny_bind (wpAny_dictEntries hod hdd ?_)
  have loop : wpAny (model prog w) A (do
      let size := (← dictEntries o).size
      let epoch ← dictEpoch o
      for i in List.range size do
        let some e := (← dictEntries o)[i]? | unsupported "dict.changed-during-merge"
        holding [e.key, e.val] do
          if false = true then
            if (← dictFind d e.key e.hash).isSome then rule "dict.merge.duplicate-key"; raiseNew (← newExc (.type "KeyError") [e.key])
          dictPut d e.hash e.key e.val
        if (← dictEpoch o) != epoch then unsupported "dict.changed-during-merge") Q E s := by
    refine wpAny_bind (wpAny_dictEntries hoo hdo' ?_)
    refine wpAny_bind (wpAny_dictEpoch hoo hdo' ?_)
    refine wpAny_bind ?_
    refine wpAny_forIn_list _
      (fun rest _ s' => ∃ h' i, s' = { s with heap := h' } ∧ rest = (List.range eso.size).drop i ∧ i ≤ eso.size ∧ h'.DictOf knd d (merged kvs (more.take i)) ∧ h'.get? o = some oo ∧ Heap.SameBut d s.heap h')
      _ ?_ ?_ _ _ ⟨s.heap, 0, rfl, by simp, Nat.zero_le _, by simpa [merged] using hd, hoo, Heap.SameBut.refl _ _⟩
    · rintro x rest b s' ⟨h', i, rfl, hr, hi, hd', hoo', hs'⟩
      have hlt : i < eso.size := by
        rcases Nat.lt_or_ge i eso.size with h | h
        · exact h
        · rw [List.drop_of_length_le (by simpa using h)] at hr; cases hr
      obtain ⟨rfl, hrest⟩ : x = i ∧ rest = (List.range eso.size).drop (i + 1) := by
        rw [List.drop_eq_getElem_cons (by simpa using hlt)] at hr
        injection hr with h1 h2
        exact ⟨by simpa using h1, h2⟩
      refine wpAny_bind (wpAny_dictEntries hoo' hdo' ?_)
      rw [Array.getElem?_eq_getElem hlt]
      obtain ⟨kv, hkv⟩ : ∃ kv, more[x]? = some kv := ⟨more[x]'(by rw [hlen]; exact hlt), List.getElem?_eq_getElem _⟩
      obtain ⟨k, v⟩ := kv
      obtain ⟨hkey, hval⟩ := hpo.get? (e := eso[x]) (by simp [hlt]) hkv
      obtain ⟨k', hkey', hhash⟩ := hko eso[x] (Array.getElem_mem hlt)
      obtain rfl : k' = k := knd.inj _ _ _ hkey' hkey
      have hmx : (merged kvs (more.take x)).length ≤ sizeLine := by
        have e1 := merged_length_le kvs (more.take x)
        have e2 : (more.take x).length ≤ more.length := by rw [List.length_take]; omega
        omega
      simp only [Bool.false_eq_true, if_false]
      show wpAny _ _ (holding [eso[x].key, eso[x].val] (dictPut d eso[x].hash eso[x].key eso[x].val) >>= _) _ _ _
      rw [hhash, hval]
      refine wpAny_bind (wpAny_holding (dictPut_pairs hkey hd' (fun h'' hd'' hs'' => ?_) hmx))
      have hoo'' : h''.get? o = some oo := (hs''.2 o (Ne.symm hdo)).trans hoo'
      refine wpAny_bind (wpAny_dictEpoch hoo'' hdo' ?_)
      rw [if_neg (by simp)]
      exact wpAny_pure ⟨h'', x + 1, rfl, hrest, hlt, by rw [merged_take_succ kvs more x (k', v) hkv]; exact hd'', hoo'', hs'.trans hs''⟩
    · rintro b s' ⟨h', i, rfl, hr, hi, hd', hoo', hs'⟩
      have hin : i = eso.size := by
        rcases Nat.lt_or_ge i eso.size with h | h
        · rw [List.drop_eq_getElem_cons (by simpa using h)] at hr; cases hr
        · exact Nat.le_antisymm hi h
      refine wpAny_pure (hQ h' ?_ hs')
      rw [hin, ← hlen, List.take_length] at hd'; exact hd'
  split
  · refine wpAny_bind (wpAny_dictEntries hoo hdo' ?_)
    refine wpAny_bind ?_
    rw [← Array.forIn_toList]
    refine wpAny_forIn_list _ (fun rest _ s' => s' = s ∧ ∀ e ∈ rest, e ∈ eso.toList) _ ?_ ?_ _ _ ⟨rfl, fun _ h => h⟩
    · rintro e rest b s' ⟨rfl, hm⟩
      have he : e ∈ eso := Array.mem_toList_iff.mp (hm e (List.mem_cons_self ..))
      obtain ⟨k', hk', _⟩ := hko e he
      have hne := hkr _ _ hk'
      obtain ⟨eh, ek, ev⟩ := e
      dsimp only at hne ⊢
      cases ek with
      | ref a => exact absurd rfl (hne a)
      | _ => exact wpAny_pure ⟨rfl, fun e h => hm e (List.mem_cons_of_mem _ h)⟩
    · rintro b s' ⟨rfl, _⟩
      exact loop
  · exact loop
end
end Ps

/-! Dict displays that begin with another dict's pairs: the rules. -/
namespace Ps
open PySem PySem.Spec PyProof.Rows PySem.W L2
theorem gatherD (d : Addr) (f : (Option (Sem Value) × Sem Value) → (Option Addr × List (Sem Value × Sem Value)) → Sem (ForInStep (Option Addr × List (Sem Value × Sem Value))))
    (hf : ∀ (p : Sem Value × Sem Value) (run : List (Sem Value × Sem Value)), run.length + 1 < 17 → f (some p.1, p.2) (some d, run) = pure (.yield (some d, run ++ [p]))) :
    ∀ (items run : List (Sem Value × Sem Value)), run.length + items.length < 17 → forIn (items.map fun p => (some p.1, p.2)) ((some d : Option Addr), run) f = pure (some d, run ++ items)
  | [], run, _ => by simp
  | p :: rest, run, h => by
    rw [List.map_cons, List.forIn_cons, hf p run (by simp at h; omega), pure_bind]
    have := gatherD d f hf rest (run ++ [p]) (by simp at h ⊢; omega)
    simpa using this
section
variable {prog : Program} {w : World} {A : Around} {E : Value → Shared → Prop} {s : Shared}
/-- {**v, pairs} -/
theorem display_star {v : Sem Value} {pairs : List (Sem Value × Sem Value)} {Q : Value → Shared → Prop} (h0 : pairs ≠ []) (hlen : pairs.length < 17)
    (h : wpAny (model prog w) A v (fun m s1 => wpAny (model prog w) A (mergeMapping s.heap.objs.size m false) (fun _ s2 => wpAny (model prog w) A (subDict pairs) (fun sub s3 =>
      wpAny (model prog w) A (mergeMapping s.heap.objs.size (.ref sub) false) (fun _ s4 => Q (.ref s.heap.objs.size) s4) (fun _ _ => False) s3) E s2) (fun _ _ => False) s1) E { s with heap := s.heap.push { cls := .type "dict", data := .dict #[] } }) :
    wpAny (model prog w) A (dictDisplay ((none, v) :: pairs.map fun p => (some p.1, p.2))) Q E s := by
  unfold dictDisplay
  dsimp only
  rw [List.forIn_cons]
  refine wpAny_bind (wpAny_bind ?_)
  simp only [List.isEmpty_nil, if_true, pure_bind]
  refine wpAny_bind (wpAny_alloc ?_)
  refine wpAny_bind (wpAny_holding (wpAny_mono h (fun m s1 h1 => ?_) fun _ _ e => e))
  refine wpAny_bind (wpAny_onRaise (wpAny_tryCatch (wpAny_onRaise (wpAny_holding (wpAny_mono h1 (fun _ s2 h2 => ?_) fun _ _ z => z.elim)))))
  refine wpAny_pure ?_
  dsimp only
  rw [gatherD s.heap.objs.size _ (fun p run h => by
    have hne : ((run ++ [(p.1, p.2)]).length == 17) = false := by simp; omega
    simp only [hne, Bool.false_eq_true, if_false]) pairs [] (by simpa using hlen)]
  refine wpAny_pure ?_
  dsimp only
  rw [List.nil_append, if_neg (by simpa using h0)]
  refine wpAny_bind (wpAny_bind (wpAny_holding (wpAny_mono h2 (fun sub s3 h3 => ?_) fun _ _ e => e)))
  refine wpAny_bind (wpAny_onRaise (wpAny_holding (wpAny_mono h3 (fun _ s4 h4 => ?_) fun _ _ z => z.elim)))
  exact wpAny_pure (wpAny_pure h4)
/-- {**v, **u} -/
theorem display_star2 {v u : Sem Value} {Q : Value → Shared → Prop}
    (h : wpAny (model prog w) A v (fun m s1 => wpAny (model prog w) A (mergeMapping s.heap.objs.size m false) (fun _ s2 => wpAny (model prog w) A u (fun m2 s3 =>
      wpAny (model prog w) A (mergeMapping s.heap.objs.size m2 false) (fun _ s4 => Q (.ref s.heap.objs.size) s4) (fun _ _ => False) s3) E s2) (fun _ _ => False) s1) E { s with heap := s.heap.push { cls := .type "dict", data := .dict #[] } }) :
    wpAny (model prog w) A (dictDisplay [(none, v), (none, u)]) Q E s := by
  unfold dictDisplay
  dsimp only
  rw [List.forIn_cons]
  refine wpAny_bind (wpAny_bind ?_)
  simp only [List.isEmpty_nil, if_true, pure_bind]
  refine wpAny_bind (wpAny_alloc ?_)
  refine wpAny_bind (wpAny_holding (wpAny_mono h (fun m s1 h1 => ?_) fun _ _ e => e))
  refine wpAny_bind (wpAny_onRaise (wpAny_tryCatch (wpAny_onRaise (wpAny_holding (wpAny_mono h1 (fun _ s2 h2 => ?_) fun _ _ z => z.elim)))))
  refine wpAny_pure ?_
  dsimp only
  rw [List.forIn_cons]
  refine wpAny_bind ?_
  dsimp only
  simp only [List.isEmpty_nil, if_true, pure_bind]
  refine wpAny_bind (wpAny_holding (wpAny_mono h2 (fun m2 s3 h3 => ?_) fun _ _ e => e))
  refine wpAny_bind (wpAny_onRaise (wpAny_tryCatch (wpAny_onRaise (wpAny_holding (wpAny_mono h3 (fun _ s4 h4 => ?_) fun _ _ z => z.elim)))))
  refine wpAny_pure ?_
  dsimp only
  rw [List.forIn_nil]
  refine wpAny_pure ?_
  dsimp only
  simp only [List.isEmpty_nil, if_true, pure_bind]
  exact wpAny_pure h4
end
section
variable {X : Cx} {pos : Pos} {e e2 : Expr} {te te2 : TE} {keys : List (Option Expr)} {values : List Expr} {trs : List (TE × TE)}
theorem mix_nref {k : Key} {v : Value} (h : (mixKind X.prog X.w).is k v = true) (a : Addr) : v ≠ .ref a := by
  rcases keyIs_shape h with ⟨i, t, rfl, rfl⟩ | ⟨x, t, rfl, rfl⟩ <;> exact fun z => nomatch z
/-- the pairs of the dict at o go into the dict at d -/
theorem inv_merge {pins : List (Addr × Obj)} {σ : L2.St} {H : Hp} {s : Shared} {d o : Addr} {kvs more : List (Key × V)} {Q : Unit → Shared → Prop} {E : Value → Shared → Prop} (I : L2.Inv X pins σ H s) (hd : H d = some (.dK kvs)) (ho : Rd H o (.dK more)) (hne : d ≠ o) (hz : kvs.length + more.length ≤ 1000)
    (h : ∀ s', L2.Inv X pins σ (upd H d (.dK (mergeK kvs more))) s' → Q () s') : wpAny (model X.prog X.w) X.A (mergeMapping d (.ref o) false) Q E s := by
  obtain ⟨z1, n1, vs, r1, d1⟩ := dk_of I.hok hd
  obtain ⟨z2, n2, us, r2, d2⟩ := dk_rd I.hok ho
  have hsz : vs.length + us.length ≤ sizeLine := by rw [← r1.length, ← r2.length, sizeLine_eq]; omega
  refine mergeMapping_pairs (knd := mixKind X.prog X.w) (fun k v h a => mix_nref h a) hne n2 d1 d2 hsz fun h' dd' hs => h _ ?_
  have hz' : (mergeK kvs more).length ≤ sizeLine := by
    have h1 := length_mergeK more kvs
    rw [sizeLine_eq]; omega
  have he : ∃ q, h'.get? d = some q := let ⟨q, _, _, hq, _⟩ := dd'; ⟨q, hq⟩
  exact d_write I (by rw [hd]; exact True.intro) hs he (dk_new hz' n1 (r2.merge r1) dd')
def tDispM (te : TE) (trs : List (TE × TE)) : TE := fun σ H Q => ∀ p, H p = none → te σ (upd H p (.dK [])) fun x H1 => ∃ a kvs, x = .ref a ∧ Rd H1 a (.dK kvs) ∧ H1 p = some (.dK []) ∧ p ≠ a ∧ kvs.length ≤ 100 ∧
  ∀ q, (upd H1 p (.dK (mergeK [] kvs))) q = none → tPairs trs σ (upd (upd H1 p (.dK (mergeK [] kvs))) q (.dK [])) fun ps H2 => H2 q = some (.dK []) ∧ H2 p = some (.dK (mergeK [] kvs)) ∧ p ≠ q ∧
    ∃ more : List (Key × V), ps = more.map (fun kv => (kV kv.1, kv.2)) ∧ more.length ≤ 15 ∧ Q (.ref p) (upd (upd H2 q (.dK (mergeK [] more))) p (.dK (mergeK (mergeK [] kvs) (mergeK [] more))))
theorem pe_dispM (he : PE X e te) (h : PPs X pos keys values trs) (hall : keys.all (·.isSome) = true) (hl : keys.length = values.length) (h0 : keys ≠ []) (h15 : keys.length ≤ 15) : PE X (.Dict (none :: keys) (e :: values) pos) (tDispM te trs) := by
  refine ⟨fun pins s σ H Q I q => ?_⟩
  have hn := I.hok.fresh (Nat.le_refl s.heap.objs.size)
  have I1 := I.laid (a := s.heap.objs.size) (o := .dK []) (h' := s.heap.push { cls := .type "dict", data := .dict #[] }) (t' := s.toks) (fun _ _ q => Heap.get?_push_of_some _ q) (Nat.le_refl _) (dk_empty s.heap I.big)
  have hpn := pairTrees_length keys values X.env pos hall hl
  rw [arm_eval_Dict]
  refine wpAny_bind (wpAny_standAt ?_)
  show wpAny _ _ (dictDisplay ((none, _) :: (evalEachOpt keys X.env).zip ((evalEach values X.env).map fun v => do let x ← v; standAt pos; pure x))) _ _ _
  rw [zip_pairTrees keys values X.env pos hall hl]
  refine display_star (fun z => h0 (List.length_eq_zero_iff.mp (by rw [← hpn, z]; rfl))) (by rw [hpn]; omega) ?_
  refine wpAny_bind (thn (he.run pins _ σ _ _ I1 (q _ hn)) fun u s1 ⟨x, H1, I2, rx, a, kvs, ex, ea, ep, hne, hz, q1⟩ => wpAny_bind (wpAny_standAt (wpAny_pure ?_)))
  subst ex
  obtain rfl : u = Value.ref a := rx
  refine inv_merge I2 ep ea hne (by simp only [List.length_nil]; omega) fun s2 I3 => ?_
  have hnq := I3.hok.fresh (Nat.le_refl s2.heap.objs.size)
  have I4 := I3.laid (a := s2.heap.objs.size) (o := .dK []) (h' := s2.heap.push { cls := .type "dict", data := .dict #[] }) (t' := s2.toks) (fun _ _ q => Heap.get?_push_of_some _ q) (Nat.le_refl _) (dk_empty s2.heap I3.big)
  refine wpAny_subDict (knd := mixKind X.prog X.w) (by rw [hpn]; exact h15) (thn (h.run pins _ σ _ _ I4 (q1 _ hnq)) fun ws s3 ⟨ps, H2, I5, rel, eq, ep2, hpq, more, eps, lk, q2⟩ => ?_)
  subst eps
  obtain ⟨rs, c, rk⟩ := carries_of (P := X.prog) (w := X.w) rel
  obtain ⟨z, hd, vs0, r0, dd⟩ := dk_of I5.hok eq
  cases r0
  refine ⟨rs, c, dd, fun h' dd' hs => ?_⟩
  have hlm := length_mergeK more ([] : List (Key × V))
  have hlk := length_mergeK kvs ([] : List (Key × V))
  rw [List.length_nil] at hlm hlk
  have hz : (mergeK [] more).length ≤ sizeLine := by rw [sizeLine_eq]; omega
  have hex : ∃ q, h'.get? s2.heap.objs.size = some q := let ⟨q, _, _, hq, _⟩ := dd'; ⟨q, hq⟩
  have I6 := d_write (t' := s3.toks + ws.length) I5 (by rw [eq]; exact True.intro) hs hex (dk_new hz hd (rk.merge .nil) dd')
  refine inv_merge I6 (by rw [upd_ne hpq]; exact ep2) (.inl upd_same) hpq (by omega) fun s4 I7 => ⟨.ref _, _, I7, rfl, q2⟩
def tDispM2 (te te2 : TE) : TE := fun σ H Q => ∀ p, H p = none → te σ (upd H p (.dK [])) fun x H1 => ∃ a kvs, x = .ref a ∧ Rd H1 a (.dK kvs) ∧ H1 p = some (.dK []) ∧ p ≠ a ∧ kvs.length ≤ 100 ∧
  te2 σ (upd H1 p (.dK (mergeK [] kvs))) fun y H2 => ∃ b more, y = .ref b ∧ Rd H2 b (.dK more) ∧ H2 p = some (.dK (mergeK [] kvs)) ∧ p ≠ b ∧ more.length ≤ 100 ∧ Q (.ref p) (upd H2 p (.dK (mergeK (mergeK [] kvs) more)))
theorem pe_dispM2 (he : PE X e te) (he2 : PE X e2 te2) : PE X (.Dict [none, none] [e, e2] pos) (tDispM2 te te2) := by
  refine ⟨fun pins s σ H Q I q => ?_⟩
  have hn := I.hok.fresh (Nat.le_refl s.heap.objs.size)
  have I1 := I.laid (a := s.heap.objs.size) (o := .dK []) (h' := s.heap.push { cls := .type "dict", data := .dict #[] }) (t' := s.toks) (fun _ _ q => Heap.get?_push_of_some _ q) (Nat.le_refl _) (dk_empty s.heap I.big)
  rw [arm_eval_Dict]
  refine wpAny_bind (wpAny_standAt ?_)
  show wpAny _ _ (dictDisplay [(none, _), (none, _)]) _ _ _
  refine display_star2 ?_
  refine wpAny_bind (thn (he.run pins _ σ _ _ I1 (q _ hn)) fun u s1 ⟨x, H1, I2, rx, a, kvs, ex, ea, ep, hne, hz, q1⟩ => wpAny_bind (wpAny_standAt (wpAny_pure ?_)))
  subst ex
  obtain rfl : u = Value.ref a := rx
  refine inv_merge I2 ep ea hne (by simp only [List.length_nil]; omega) fun s2 I3 => ?_
  refine wpAny_bind (thn (he2.run pins _ σ _ _ I3 q1) fun u2 s3 ⟨y, H2, I4, ry, b, more, ey, eb, ep2, hne2, hz2, q2⟩ => wpAny_bind (wpAny_standAt (wpAny_pure ?_)))
  subst ey
  obtain rfl : u2 = Value.ref b := ry
  have hlk := length_mergeK kvs ([] : List (Key × V))
  rw [List.length_nil] at hlk
  exact inv_merge I4 ep2 eb hne2 (by omega) fun s4 I7 => ⟨.ref _, _, I7, rfl, q2⟩
end
end Ps

/-! Shares: their comparisons, where nothing is raised. -/
namespace Ps
open PySem PySem.Spec PyProof.Rows PySem.W L2

/-- v is no number -/
def NotNum (K : Frag) (C : Addr) (H : Hp) (v : V) : Prop := ∃ t, TyX K H v t ∧ kitOne K t (.ref C) = some false ∧ notFirst K C t = true ∧ (t = .type "bool" ∨ kitOne K t (.type "int") = some false)
def spIsNum (K : Frag) (C : Addr) : Sp := fun vs H Q _ => ∃ v, vs = [v] ∧ (((∃ q, Nb C H v q) ∧ Q (.bl true) H) ∨ (NotNum K C H v ∧ Q (.bl false) H))
def gMin (q r : Int × Int) : Int := q.1 * r.2 - r.1 * q.2
def spMinus (C : Addr) : Sp := fun vs H Q _ => ∃ x y q r, vs = [x, y] ∧ Sh C H x q ∧ Nb C H y r ∧ Sz 4000 q ∧ Sz 4000 r ∧ ∀ H', Same H H' → Q (.int (gMin q r)) H'
def spOrd (C : Addr) (g : Int → Bool) : Sp := fun vs H Q _ => ∃ x y q r, vs = [x, y] ∧ Sh C H x q ∧ Nb C H y r ∧ Sz 4000 q ∧ Sz 4000 r ∧ ∀ H', Same H H' → Q (.bl (g (gMin q r))) H'
def spShEq (K : Frag) (C : Addr) : Sp := fun vs H Q _ => ∃ x y q, vs = [x, y] ∧ Sh C H x q ∧ ((∃ r, Nb C H y r ∧ Sz 4000 q ∧ Sz 4000 r ∧ ∀ H', Same H H' → Q (.bl (decide (gMin q r = 0))) H') ∨ (NotNum K C H y ∧ Q (.bl false) H))
theorem Nb.nf {Z : Cz} {C : Addr} (T : ShT Z C) {H : Hp} {y : V} {q : Int × Int} (h : Nb C H y q) : Nf Z.K C H y := by
  rcases h with ⟨a, dx, rfl, ha⟩ | ⟨i, rfl, _⟩
  · exact ⟨_, T.ty ha, nf_own⟩
  · exact ⟨_, .base (.int _), nf_int⟩
theorem NotNum.nf {K : Frag} {C : Addr} {H : Hp} {y : V} (h : NotNum K C H y) : Nf K C H y := by
  obtain ⟨t, ty, _, hn, _⟩ := h
  exact ⟨t, ty, hn⟩
section
variable {Z : Cz} {f C : Addr} {fd : FuncData}
theorem ok_is_number (F : Fun Z.K "is_number" "is_number" s_is_number f fd) (T : ShT Z C) (c_is_integer : Cal Z CX0 1 "is_integer" ["value"] [] (spIsInt Z.K)) : Z.ok CX0 2 f fd ["value"] (spIsNum Z.K C) := by
  refine F.ok sc_is_number (fun vs H Q E h => ?_) (fun cdv A outer s H vs Q E hr h => ?_)
  · obtain ⟨v, rfl, _⟩ := h
    rfl
  · obtain ⟨v, rfl, h⟩ := h
    refine ⟨_, (pss_one (ps_ret (pe_or (pe_callB call_isi (by rfl) T.isi (by decide +kernel) (pa_cons (pv 0) (pa_cons (pe_glob (v := .ref C) rfl T.mgC rfl) pa_nil))) (pe_one (pe_cal c_is_integer (hr.mono (by decide)) (by rfl) pass0 (pa_cons (pv 0) pa_nil)))))), ?_⟩
    rcases h with ⟨⟨q, ⟨a, dx, rfl, ha⟩ | ⟨i, rfl, _⟩⟩, k⟩ | ⟨⟨t, ty, k1, _, k2⟩, k⟩
    · exact ⟨_, rfl, _, _, _, _, true, rfl, .own C, T.ty ha, T.kCC, _, rfl, iteT k⟩
    · refine ⟨_, rfl, _, _, _, _, false, rfl, .own C, .base (.int _), T.kIC, _, rfl, iteF ?_⟩
      exact ⟨_, rfl, _, _, rfl, .base (.int _), .inl ⟨rfl, k⟩⟩
    · refine ⟨_, rfl, _, _, _, _, false, rfl, .own C, ty, k1, _, rfl, iteF ?_⟩
      rcases k2 with rfl | k2
      · exact ⟨_, rfl, _, _, rfl, ty, .inr (.inl ⟨rfl, k⟩)⟩
      · exact ⟨_, rfl, _, _, rfl, ty, .inr (.inr ⟨k2, k⟩)⟩
theorem ok_minus (F : Fun Z.K "minus" "Share.minus" s_Share_minus f fd) (T : ShT Z C) (c_share_of_number : CNum Z C) : Z.ok CX0 5 f fd ["self", "other"] (spMinus C) := by
  refine F.ok sc_Share_minus (fun vs H Q E h => ?_) (fun cdv A outer s H vs Q E hr h => ?_)
  · obtain ⟨x, y, q, r, rfl, _⟩ := h
    rfl
  · obtain ⟨x, y, q, r, rfl, hx, hy, hq, hr', k⟩ := h
    refine ⟨_, (pss_cons (ps_set (i := 1) sc_Share_minus.nd rfl (Or.inl rfl) (pe_cal c_share_of_number (hr.mono (by decide)) (by rfl) pass0 (pa_cons (pv 1) pa_nil)))
      (pss_one (ps_ret (pe_op op_sub (pe_op op_mulW (pe_fld (pv 0) rfl) (pe_fld (pv 1) rfl)) (pe_op op_mulW (pe_fld (pv 1) rfl) (pe_fld (pv 0) rfl)))))), ?_⟩
    refine ⟨_, rfl, _, r, rfl, hy, fun y' H1 e1 hy' => ?_⟩
    obtain ⟨a, dx, rfl, ha⟩ := hx.mono e1
    obtain ⟨b, dy, rfl, hb⟩ := id hy'
    refine ⟨_, rfl, a, C, dx, _, _, rfl, ha, T.cl, T.nT, shF_top _ _, _, rfl, b, C, dy, _, _, rfl, hb, T.cl, T.nU, shF_under _ _, _, _, rfl, rfl, lt_mul hq.t hr'.u, ?_⟩
    exact ⟨_, rfl, b, C, dy, _, _, rfl, hb, T.cl, T.nT, shF_top _ _, _, rfl, a, C, dx, _, _, rfl, ha, T.cl, T.nU, shF_under _ _, _, _, rfl, rfl, lt_mul hr'.t hq.u, _, _, rfl, rfl, k _ e1⟩
abbrev CMinus (Z : Cz) (C : Addr) : Prop := CalM Z CX0 5 C "minus" ["self", "other"] [] (spMinus C)
theorem shF_no' (t u : Int) (m : Str) (h1 : (m == ("own_top" : Str)) = false) (h2 : (m == ("own_under" : Str)) = false) : (shF t u).lookup m = none := by
  unfold shF
  rw [List.lookup_cons, h1, List.lookup_cons, h2]
  rfl
theorem ok_lt (F : Fun Z.K "__lt__" "Share.__lt__" s_Share_dd_lt f fd) (c_minus : CMinus Z C) : Z.ok CX0 6 f fd ["self", "other"] (spOrd C fun i => decide (i < 0)) := by
  refine F.ok sc_Share_dd_lt (fun vs H Q E h => ?_) (fun cdv A outer s H vs Q E hr h => ?_)
  · obtain ⟨x, y, q, r, rfl, _⟩ := h
    rfl
  · obtain ⟨x, y, q, r, rfl, hx, hy, hq, hr', k⟩ := h
    refine ⟨_, (pss_one (ps_ret (pe_cmpR op_lt (pe_calM c_minus (hr.mono (by decide)) pass0 (pv 0) (pa_cons (pv 1) pa_nil)) pe_int (nomark _)))), ?_⟩
    obtain ⟨a, dx, rfl, ha⟩ := id hx
    exact ⟨_, rfl, a, dx, _, rfl, ha, shF_no' _ _ _ (by decide) (by decide), _, rfl, _, _, _, _, rfl, hx, hy, hq, hr', fun H' e => ⟨_, _, rfl, rfl, k _ e⟩⟩
theorem ok_le (F : Fun Z.K "__le__" "Share.__le__" s_Share_dd_le f fd) (c_minus : CMinus Z C) : Z.ok CX0 6 f fd ["self", "other"] (spOrd C fun i => decide (i ≤ 0)) := by
  refine F.ok sc_Share_dd_le (fun vs H Q E h => ?_) (fun cdv A outer s H vs Q E hr h => ?_)
  · obtain ⟨x, y, q, r, rfl, _⟩ := h
    rfl
  · obtain ⟨x, y, q, r, rfl, hx, hy, hq, hr', k⟩ := h
    refine ⟨_, (pss_one (ps_ret (pe_cmpR op_le (pe_calM c_minus (hr.mono (by decide)) pass0 (pv 0) (pa_cons (pv 1) pa_nil)) pe_int (nomark _)))), ?_⟩
    obtain ⟨a, dx, rfl, ha⟩ := id hx
    exact ⟨_, rfl, a, dx, _, rfl, ha, shF_no' _ _ _ (by decide) (by decide), _, rfl, _, _, _, _, rfl, hx, hy, hq, hr', fun H' e => ⟨_, _, rfl, rfl, k _ e⟩⟩
theorem ok_gt (F : Fun Z.K "__gt__" "Share.__gt__" s_Share_dd_gt f fd) (c_minus : CMinus Z C) : Z.ok CX0 6 f fd ["self", "other"] (spOrd C fun i => decide (0 < i)) := by
  refine F.ok sc_Share_dd_gt (fun vs H Q E h => ?_) (fun cdv A outer s H vs Q E hr h => ?_)
  · obtain ⟨x, y, q, r, rfl, _⟩ := h
    rfl
  · obtain ⟨x, y, q, r, rfl, hx, hy, hq, hr', k⟩ := h
    refine ⟨_, (pss_one (ps_ret (pe_cmpR op_gt (pe_calM c_minus (hr.mono (by decide)) pass0 (pv 0) (pa_cons (pv 1) pa_nil)) pe_int (nomark _)))), ?_⟩
    obtain ⟨a, dx, rfl, ha⟩ := id hx
    exact ⟨_, rfl, a, dx, _, rfl, ha, shF_no' _ _ _ (by decide) (by decide), _, rfl, _, _, _, _, rfl, hx, hy, hq, hr', fun H' e => ⟨_, _, rfl, rfl, k _ e⟩⟩
theorem ok_ge (F : Fun Z.K "__ge__" "Share.__ge__" s_Share_dd_ge f fd) (c_minus : CMinus Z C) : Z.ok CX0 6 f fd ["self", "other"] (spOrd C fun i => decide (0 ≤ i)) := by
  refine F.ok sc_Share_dd_ge (fun vs H Q E h => ?_) (fun cdv A outer s H vs Q E hr h => ?_)
  · obtain ⟨x, y, q, r, rfl, _⟩ := h
    rfl
  · obtain ⟨x, y, q, r, rfl, hx, hy, hq, hr', k⟩ := h
    refine ⟨_, (pss_one (ps_ret (pe_cmpR op_ge (pe_calM c_minus (hr.mono (by decide)) pass0 (pv 0) (pa_cons (pv 1) pa_nil)) pe_int (nomark _)))), ?_⟩
    obtain ⟨a, dx, rfl, ha⟩ := id hx
    exact ⟨_, rfl, a, dx, _, rfl, ha, shF_no' _ _ _ (by decide) (by decide), _, rfl, _, _, _, _, rfl, hx, hy, hq, hr', fun H' e => ⟨_, _, rfl, rfl, k _ e⟩⟩
theorem ok_eq (F : Fun Z.K "__eq__" "Share.__eq__" s_Share_dd_eq f fd) (c_minus : CMinus Z C) (c_is_number : Cal Z CX0 2 "is_number" ["value"] [] (spIsNum Z.K C)) : Z.ok CX0 6 f fd ["self", "other"] (spShEq Z.K C) := by
  refine F.ok sc_Share_dd_eq (fun vs H Q E h => ?_) (fun cdv A outer s H vs Q E hr h => ?_)
  · obtain ⟨x, y, q, rfl, _⟩ := h
    rfl
  · obtain ⟨x, y, q, rfl, hx, h⟩ := h
    refine ⟨_, (pss_cons (ps_if (pt_not (pt_val (pe_cal c_is_number (hr.mono (by decide)) (by rfl) pass0 (pa_cons (pv 1) pa_nil))))
      (pss_one (ps_ret pe_bl))
      pss_nil)
      (pss_one (ps_ret (pe_cmpR op_eq (pe_calM c_minus (hr.mono (by decide)) pass0 (pv 0) (pa_cons (pv 1) pa_nil)) pe_int (nomark _))))), ?_⟩
    rcases h with ⟨r, hy, hq, hr', k⟩ | ⟨hn, k⟩
    · refine ⟨_, rfl, _, rfl, .inl ⟨⟨_, hy⟩, _, rfl, iteF ?_⟩⟩
      obtain ⟨a, dx, rfl, ha⟩ := id hx
      refine ⟨_, rfl, a, dx, _, rfl, ha, shF_no' _ _ _ (by decide) (by decide), _, rfl, _, _, _, _, rfl, hx, hy, hq, hr', fun H' e => ⟨rfl, ?_⟩⟩
      have := k _ e
      rw [show decide (V.int (gMin q r) = V.int 0) = decide (gMin q r = 0) from decide_eq_decide.mpr ⟨V.int.inj, fun z => by rw [z]⟩]
      exact this
    · exact ⟨_, rfl, _, rfl, .inr ⟨hn, _, rfl, iteT k⟩⟩
end
end Ps

/-! Common words of the laws about shares. -/
namespace Ps
open PySem PySem.Spec PyProof.Rows PySem.W L2

/-- two rules of one operator -/
theorem op_both {X : Cx} {f : Value → Value → Sem Value} {r1 r2 : R2} (h1 : OpR X f r1) (h2 : OpR X f r2) : OpR X f (fun x y H Q => r1 x y H Q ∨ r2 x y H Q) := by
  intro pins s σ H x y v u Q I rx ry h
  rcases h with h | h
  · exact h1 pins s σ H x y v u Q I rx ry h
  · exact h2 pins s σ H x y v u Q I rx ry h
/-- a test, with a word behind it -/
def tCutT (t : TT) : TT := fun σ H Q => ∃ Mid : Bool → Hp → Prop, t σ H Mid ∧ ∀ b H', Mid b H' → Q b H'
theorem pt_cut {X : Cx} {e : Expr} {t : TT} (h : PT X e t) : PT X e (tCutT t) := by
  refine ⟨fun pins s σ H Q I q => ?_⟩
  obtain ⟨Mid, hm, hq⟩ := q
  exact thn (h.run pins s σ H Mid I hm) fun d s1 ⟨H1, I1, q1⟩ => ⟨H1, I1, hq _ _ q1⟩

theorem mk_shI {C x dx : Addr} {H : Hp} {Q2 : VK} {E : XK} {t u : Int} (hu : u ≠ 0) (hb : u.natAbs < 2 ^ 9000) (hx : H x = none) (hdx : H dx = none) (hne : dx ≠ x) (k : ∀ H', Same H H' → Sh C H' (.ref x) (low t u) → Q2 .non H') :
    spShInit C [.ref x, .int t, .int u] (upd (upd H dx (.own x)) x (.ins C dx [])) Q2 E := by
  refine ⟨x, dx, t, u, rfl, upd_same, hu, hb, fun H' h1 h2 => ?_⟩
  refine k H' (fun b o e => ?_) ⟨x, dx, rfl, h2⟩
  rw [h1 b (ne_of_none e hx), upd_ne (ne_of_none e hx), upd_ne (ne_of_none e hdx)]
  exact e
def pair (q : Int × Int) : List V := [.int q.1, .int q.2]
/-- a new list -/
def NewL (H : Hp) (Q : VK) (xs : List V) : Prop := ∀ p H', Same H H' → H p = none → H' p = some (.lst xs) → Q (.ref p) H'
theorem NewL.here {H H1 : Hp} {Q : VK} {xs : List V} (k : NewL H Q xs) (e : Same H H1) {p : Addr} (hp : H1 p = none) : Q (.ref p) (upd H1 p (.lst xs)) :=
  k p _ (e.trans (Same.upd hp)) (e.free hp) upd_same
theorem pair_dp {K : Frag} {H : Hp} {p : Addr} {q : Int × Int} (h : H p = some (.lst (pair q))) : Dp K H (.ref p) (.list [.int q.1, .int q.2]) := .lst (SqL.of h) (.cons (.int _) (.cons (.int _) .nil))

theorem gAdd_comm (q r : Int × Int) : gAdd q r = gAdd r q := by
  unfold gAdd
  rw [Int.add_comm, Int.mul_comm q.2]
theorem gMul_comm (q r : Int × Int) : gMul q r = gMul r q := by
  unfold gMul
  rw [Int.mul_comm q.1, Int.mul_comm q.2]
theorem Sz.low {n : Nat} {q : Int × Int} (h : Sz n q) : Sz n (Ps.low q.1 q.2) :=
  ⟨Int.ne_of_gt (low_pos h.ne), Nat.lt_of_le_of_lt (low_le1 h.ne) h.t, Nat.lt_of_le_of_lt (low_le2 h.ne) h.u⟩
theorem vne {i j : Int} (h : i ≠ j) : ¬ V.int i = V.int j := fun z => h (V.int.inj z)

theorem Sz.of_low {n : Nat} {t u : Int} (hu : u ≠ 0) (h1 : t.natAbs < 2 ^ n) (h2 : u.natAbs < 2 ^ n) : Sz n (Ps.low t u) :=
  ⟨Int.ne_of_gt (low_pos hu), Nat.lt_of_le_of_lt (low_le1 hu) h1, Nat.lt_of_le_of_lt (low_le2 hu) h2⟩
theorem add_lt {i j : Int} {n : Nat} (hi : i.natAbs < 2 ^ n) (hj : j.natAbs < 2 ^ n) : (i + j).natAbs < 2 ^ (n + 1) := by
  rw [Nat.pow_succ]
  omega
theorem Sz.add {n : Nat} {q r : Int × Int} (hq : Sz n q) (hr : Sz n r) : Sz (n + n + 1) (gAdd q r) :=
  Sz.of_low (Int.mul_ne_zero hq.ne hr.ne) (add_lt (wide_lt hq.t hr.u) (wide_lt hr.t hq.u)) (lt_up (wide_lt hq.u hr.u) (by omega))
theorem Sz.mul {n : Nat} {q r : Int × Int} (hq : Sz n q) (hr : Sz n r) : Sz (n + n) (gMul q r) :=
  Sz.of_low (Int.mul_ne_zero hq.ne hr.ne) (wide_lt hq.t hr.t) (wide_lt hq.u hr.u)
theorem Sz.by_ {n : Nat} {q r : Int × Int} (hq : Sz n q) (hr : Sz n r) (hn : r.1 ≠ 0) : Sz (n + n) (gBy q r) :=
  Sz.of_low (Int.mul_ne_zero hq.ne hn) (wide_lt hq.t hr.u) (wide_lt hq.u hr.t)
theorem shF_no (t u : Int) (m : Str) (h1 : (m == ("own_top" : Str)) = false) (h2 : (m == ("own_under" : Str)) = false) : (shF t u).lookup m = none := by
  unfold shF
  rw [List.lookup_cons, h1, List.lookup_cons, h2]
  rfl

theorem eqv_pair (q : Int × Int) : PyData.eqv (.list [.int q.1, .int q.2]) (.list [.int q.1, .int q.2]) = true := SeqAt.eqv_refl _ rfl
/-- all but p is as it was -/
def Keep (p : Addr) (H H' : Hp) : Prop := ∀ b, b ≠ p → ∀ o, H b = some o → H' b = some o
theorem Keep.refl (p : Addr) (H : Hp) : Keep p H H := fun _ _ _ h => h
theorem Keep.trans {p : Addr} {H H1 H2 : Hp} (a : Keep p H H1) (b : Keep p H1 H2) : Keep p H H2 := fun c hc o h => b c hc o (a c hc o h)
theorem Keep.of_same {p : Addr} {H H1 : Hp} (a : Same H H1) : Keep p H H1 := fun c hc o h => a c o h
theorem Keep.of_eq {p : Addr} {H H1 : Hp} (a : ∀ b, b ≠ p → H1 b = H b) : Keep p H H1 := fun c hc o h => by rw [a c hc]; exact h
theorem Keep.same {p : Addr} {H0 H H1 : Hp} (e : Same H0 H) (hp : H0 p = none) (a : Keep p H H1) : Same H0 H1 := fun b o h => a b (ne_of_none h hp) o (e b o h)
theorem Pool.new {H : Hp} {p q l : Addr} {ms : List Int} {i : Nat} {o : HO} (P : Pool H p q ms i) (hl : H l = none) : Pool (upd H l o) p q ms i :=
  ⟨by rw [upd_ne (ne_of_none P.at_ hl)]; exact P.at_, by rw [upd_ne (ne_of_none P.nums hl)]; exact P.nums, P.len, P.few⟩
theorem Pool.put {H : Hp} {p q l : Addr} {ms : List Int} {i : Nat} {o : HO} (P : Pool H p q ms i) (h1 : l ≠ p) (h2 : l ≠ q) : Pool (upd H l o) p q ms i :=
  ⟨by rw [upd_ne h1.symm]; exact P.at_, by rw [upd_ne h2.symm]; exact P.nums, P.len, P.few⟩
theorem Keep.put {p D : Addr} {H H1 : Hp} {o : HO} (k : Keep p H H1) (hD : H D = none) : Keep p H (upd H1 D o) := fun b hb u h => by
  rw [upd_ne (ne_of_none h hD)]
  exact k b hb u h
def spLaw (K : Frag) : Sp := fun vs H Q _ => ∃ (a : Addr) (ns : List Int), vs = [.ref a] ∧ SqL K H a (ns.map V.int) ∧ ns.length ≤ 63 ∧ ∀ H', Q (.bl true) H'
theorem small4000 {i : Int} (h : i.natAbs ≤ 1000) : i.natAbs < 2 ^ 4000 := lt_up (m := 10) (by omega) (by decide)
theorem two_of {ts : List Int} (h : ts.length = 2) : ∃ a b, ts = [a, b] := by
  match ts, h with
  | [a, b], _ => exact ⟨a, b, rfl⟩

/-- two lists, item by item -/
def Al {α : Type} (R : V → α → Prop) (vs : List V) (qs : List α) : Prop := vs.length = qs.length ∧ ∀ (i : Nat) (v : V) (q : α), vs[i]? = some v → qs[i]? = some q → R v q
section
variable {α : Type} {R S : V → α → Prop} {vs : List V} {qs : List α} {v : V} {q : α}
theorem Al.nil : Al R [] [] := ⟨rfl, fun i v q h => by simp at h⟩
theorem Al.imp (h : Al R vs qs) (k : ∀ v q, R v q → S v q) : Al S vs qs := ⟨h.1, fun i v q a b => k v q (h.2 i v q a b)⟩
theorem Al.snoc (h : Al R vs qs) (hv : R v q) : Al R (vs ++ [v]) (qs ++ [q]) := by
  refine ⟨by rw [List.length_append, List.length_append, h.1]; rfl, fun i a b ha hb => ?_⟩
  by_cases hi : i < vs.length
  · rw [List.getElem?_append_left hi] at ha
    rw [List.getElem?_append_left (by rw [← h.1]; exact hi)] at hb
    exact h.2 i a b ha hb
  · rw [List.getElem?_append_right (by omega)] at ha
    rw [List.getElem?_append_right (by rw [← h.1]; omega), ← h.1] at hb
    cases e : i - vs.length with
    | zero =>
      rw [e] at ha hb
      simp at ha hb
      subst ha; subst hb
      exact hv
    | succ j =>
      rw [e] at ha
      simp at ha
theorem Al.get (h : Al R vs qs) {i : Nat} (hv : vs[i]? = some v) : ∃ q, qs[i]? = some q ∧ R v q := by
  have hi : i < qs.length := by
    rw [← h.1]
    exact (List.getElem?_eq_some_iff.mp hv).1
  exact ⟨qs[i], List.getElem?_eq_getElem hi, h.2 i v _ hv (List.getElem?_eq_getElem hi)⟩
theorem Al.cons (hv : R v q) (h : Al R vs qs) : Al R (v :: vs) (q :: qs) := by
  refine ⟨by simp [h.1], fun i a b ha hb => ?_⟩
  cases i with
  | zero =>
    simp at ha hb
    subst ha; subst hb
    exact hv
  | succ j =>
    simp at ha hb
    exact h.2 j a b ha hb
theorem Al.uncons (h : Al R (v :: vs) (q :: qs)) : R v q ∧ Al R vs qs :=
  ⟨h.2 0 v q rfl rfl, by have := h.1; simpa using this, fun i a b ha hb => h.2 (i + 1) a b ha hb⟩
end
theorem take_more' {α : Type} {l : List α} {i : Nat} {x : α} (h : l[i]? = some x) : l.take (i + 1) = l.take i ++ [x] := by
  rw [List.take_succ, h]
  rfl
theorem Sz.add' {m n : Nat} {q r : Int × Int} (hq : Sz m q) (hr : Sz n r) : Sz (m + n + 1) (gAdd q r) :=
  Sz.of_low (Int.mul_ne_zero hq.ne hr.ne) (add_lt (wide_lt hq.t hr.u) (by rw [Nat.add_comm m n]; exact wide_lt hr.t hq.u)) (lt_up (wide_lt hq.u hr.u) (by omega))
theorem Sz.mul' {m n : Nat} {q r : Int × Int} (hq : Sz m q) (hr : Sz n r) : Sz (m + n) (gMul q r) :=
  Sz.of_low (Int.mul_ne_zero hq.ne hr.ne) (wide_lt hq.t hr.t) (wide_lt hq.u hr.u)
theorem Sz.sub' {m n : Nat} {q r : Int × Int} (hq : Sz m q) (hr : Sz n r) : Sz (m + n + 1) (gSub q r) := hq.add' hr.neg
end Ps

/-! Shares in lowest terms, and their == as a relation. -/
namespace Ps
open PySem PySem.Spec PyProof.Rows PySem.W L2

/-- lowest terms -/
structure Lw (q : Int × Int) : Prop where
  pos : 0 < q.2
  low : low q.1 q.2 = q
theorem Lw.of {t u : Int} (hu : u ≠ 0) : Lw (Ps.low t u) := ⟨low_pos hu, low_low hu⟩
theorem Lw.int (i : Int) : Lw (i, 1) := ⟨by show (0 : Int) < 1; decide, low_one i⟩
theorem gAdd_zero {q : Int × Int} (h : Lw q) : gAdd (Ps.low 0 1) q = q := by
  rw [low_one]
  unfold gAdd
  have : Ps.low (0 * q.2 + q.1 * 1) (1 * q.2) = Ps.low q.1 q.2 := by congr 1 <;> omega
  exact this.trans h.low
theorem gMin_eq {q r : Int × Int} (hq : Lw q) (hr : Lw r) : gMin q r = 0 ↔ q = r := by
  constructor
  · intro h
    unfold gMin at h
    have e : q.1 * r.2 = r.1 * q.2 := by omega
    have hq0 := hq.pos
    have hr0 := hr.pos
    have e1 : low (r.2 * q.1) (r.2 * q.2) = low q.1 q.2 := low_scale _ _ _ (by omega) (by omega)
    have e2 : low (q.2 * r.1) (q.2 * r.2) = low r.1 r.2 := low_scale _ _ _ (by omega) (by omega)
    have e3 : r.2 * q.1 = q.2 * r.1 := by rw [Int.mul_comm, e, Int.mul_comm]
    have e4 : r.2 * q.2 = q.2 * r.2 := Int.mul_comm ..
    rw [e3, e4, e2] at e1
    rw [← hq.low, ← hr.low, ← e1]
  · rintro rfl
    unfold gMin
    omega
theorem min_zero (q : Int × Int) : gMin q (0, 1) = q.1 := by unfold gMin; omega
theorem sz_zero : Sz 4000 (0, 1) := ⟨by decide, by decide, by decide⟩
def shR (C : Addr) : Eqb := fun x y b H => ∃ q r, Sh C H x q ∧ Sh C H y r ∧ Sz 4000 q ∧ Sz 4000 r ∧ b = decide (gMin q r = 0)
theorem Sh.nd {C : Addr} {H H' : Hp} {v : V} {q : Int × Int} (e : Nd H H') (h : Sh C H v q) : Sh C H' v q := by
  obtain ⟨a, dx, h1, h2⟩ := h
  exact ⟨a, dx, h1, e _ _ h2 (fun _ z => nomatch z)⟩
theorem mon_shR {C : Addr} : MonB (shR C) := fun x y b H H' e d => by
  obtain ⟨q, r, h1, h2, h3⟩ := d
  exact ⟨q, r, h1.nd e, h2.nd e, h3⟩
theorem Sh.inj {C : Addr} {H : Hp} {v : V} {q r : Int × Int} (h1 : Sh C H v q) (h2 : Sh C H v r) : q = r := by
  obtain ⟨a, dx, rfl, h1⟩ := h1
  obtain ⟨b, dy, e, h2⟩ := h2
  cases e
  rw [h1] at h2
  have h3 := HO.ins.inj (Option.some.inj h2)
  have h4 := h3.2.2
  unfold shF at h4
  simp only [List.cons.injEq, Prod.mk.injEq, V.int.injEq, true_and, and_true] at h4
  exact Prod.ext h4.1 h4.2
theorem own_sh {C : Addr} {H : Hp} {x y : V} {q r : Int × Int} (h1 : Sh C H x q) (h2 : Sh C H y r) (z1 : Sz 4000 q) (z2 : Sz 4000 r) : DOwn C (shR C) x y (decide (gMin q r = 0)) H := by
  have h1' := h1
  have h2' := h2
  obtain ⟨a, dx, rfl, ha⟩ := h1'
  obtain ⟨c, dy, rfl, hc⟩ := h2'
  refine ⟨a, c, dx, dy, _, _, rfl, rfl, ha, hc, ⟨q, r, h1, h2, z1, z2, rfl⟩, fun z => ?_⟩
  subst z
  rw [h1.inj h2]
  exact decide_eq_true (by unfold gMin; omega)
theorem sh_sp {K : Frag} {C : Addr} : ∀ x y b H Q, shR C x y b H → (∀ H', Same H H' → Q (.bl b) H') → spShEq K C [x, y] H Q E0 := by
  rintro x y b H Q ⟨q, r, h1, h2, z1, z2, rfl⟩ k
  exact ⟨x, y, q, rfl, h1, .inl ⟨r, .inl h2, z1, z2, k⟩⟩
end Ps

/-! Words of laws that raise and tell. -/
namespace Ps
open PySem PySem.Spec PyProof.Rows PySem.W L2

theorem Same.tup {K : Frag} {H H' : Hp} {a : Addr} {xs : List V} (e : Same H H') (h : SqT K H a xs) : SqT K H' a xs := h.ext (by exact e)
theorem cxUpN {P : Program} {w : World} : StX.CXUp (L2N.CX P w) := by
  rintro outer s H s2 H2 E e s' un kp ho ⟨a, B, H', cls, d, ea, fl, hok, ub, na, os, ag, he⟩
  have fr : ∀ b o, s.heap.get? b = some o → H b = none → H2 b = none := fun b o q n => un.free b o q n (by simp)
  have ub' : UB (frs outer) H H' s.heap B s'.heap :=
    { keep := fun b o q n hb => ub.keep b o (kp b o q) (fr b o q n) hb, slot := fun b o q hb => ub.slot b o (kp b o q) hb, free := fun b o q n => ub.free b o (kp b o q) (fr b o q n), there := fun b o q hb => ub.there b o (kp b o q) hb,
      tups := fun b xs q => ub.tups b xs (un.tups b xs q), frzs := fun b o xs q => ub.frzs b o xs (un.frzs b o xs q),
      tbls := fun b ps q => by
        obtain ⟨m1, e1⟩ := un.tbls b ps q
        obtain ⟨m2, e2⟩ := ub.tbls b _ e1
        exact ⟨m1 ++ m2, by rw [e2, Array.append_assoc]⟩ }
  exact ⟨a, B, H', cls, d, ea, fl, hok, ub', na, os.trans ho, ag, he⟩
theorem pe_never {X : Cx} {e : Expr} : PE X e (fun _ _ _ => False) := ⟨fun _ _ _ _ _ _ h => h.elim⟩
mutual
theorem Dp.mono {K : Frag} {H H' : Hp} (e : Same H H') : ∀ {v : V} {d : PyData}, Dp K H v d → Dp K H' v d
  | _, _, .non => .non
  | _, _, .bl b => .bl b
  | _, _, .int i => .int i
  | _, _, .str x => .str x
  | _, _, .lst h a => .lst (e.seq h) (DpAll.mono e a)
  | _, _, .tup h a => .tup (Same.tup e h) (DpAll.mono e a)
theorem DpAll.mono {K : Frag} {H H' : Hp} (e : Same H H') : ∀ {vs : List V} {ds : List PyData}, DpAll K H vs ds → DpAll K H' vs ds
  | _, _, .nil => .nil
  | _, _, .cons h a => .cons (Dp.mono e h) (DpAll.mono e a)
end
/-- data whose repr is told -/
structure Rp (d : PyData) : Prop where
  show_ : d.showable = true
  nod : d.hasDict = false
  dep : d.depth ≤ 50
  len : d.shown.length ≤ 2000
theorem Rp.d60 {d : PyData} (h : Rp d) : d.depth ≤ 60 := Nat.le_trans h.dep (by decide)
theorem Rp.sz {d : PyData} (h : Rp d) : d.shown.length ≤ sizeLine := Nat.le_trans h.len (Nat.le_of_lt (small1000' (by decide)))
theorem takesN0 {X : Cx} : L2N.Takes X (fun _ _ _ _ => False) := fun _ _ x => by
  obtain ⟨_, _, _, _, _, _, _, _, _, _, _, _, _, _, _, _, z⟩ := x
  exact z.elim
theorem lookup_one {fl : Str} {v : V} : List.lookup fl [(fl, v)] = some v := by simp [List.lookup]
def rpB (d : PyData) : Bool := d.showable && (!d.hasDict && (decide (d.depth ≤ 50) && decide (d.shown.length ≤ 2000)))
theorem rpB_ok {d : PyData} (h : rpB d = true) : Rp d := by
  unfold rpB at h
  simp only [Bool.and_eq_true, Bool.not_eq_true', decide_eq_true_eq] at h
  exact ⟨h.1, h.2.1, h.2.2.1, h.2.2.2⟩
/-- an error of the class at C with the field fl is raised -/
def Rz (C : Addr) (fl : Str) (v : V) (H : Hp) (E : XK) : Prop := ∀ d H', Same H H' → H d = none → H' d = some (.xd [(fl, v)]) → E (.ref C) (some d) H'
theorem Rz.later {C : Addr} {fl : Str} {v : V} {H H1 : Hp} {E : XK} (h : Rz C fl v H E) (e : Same H H1) : Rz C fl v H1 E := fun d H' e' hd hx => h d H' (e.trans e') (e.free hd) hx
theorem Rz.now {C : Addr} {fl : Str} {v : V} {H : Hp} {E : XK} (h : Rz C fl v H E) : ∀ d, H d = none → E (.ref C) (some d) (L2.upd H d (.xd [(fl, v)])) := fun d hd => h d _ (Same.upd hd) hd upd_same
/-- a def called by its address -/
theorem FnOk.toR {P : Program} {w : World} {K : Frag} {mg : Str → Option Value} {base : Heap} {CX : CXT} {k : Nat} {f : Addr} {fd : FuncData} {ps : List Str} {sp : Sp} (F : FnOk P w K mg base CX k f fd ps sp) (hb : Binds K fd ps []) : FnR P w K mg base CX k f sp := by
  intro A outer s H us vs Q E hr e0 r h
  have hl : (us ++ []).length = ps.length := by rw [List.append_nil, ← r.length]; exact F.len _ _ _ _ h
  have hb' := hb s us (fun b o e => (e0.bs b o (e0.mod.kin b o e)).1) hl
  rw [List.append_nil] at hb'
  exact F.run A outer s H ⟨us, []⟩ us vs Q E hr e0 hb' r h
end Ps

/-! Books: the tests of settings, settings as kept. -/
namespace Ps
open PySem PySem.Spec PyProof.Rows PySem.W L2

def NotI (K : Frag) (H : Hp) (v : V) : Prop := ∃ t, TyX K H v t ∧ (t = .type "bool" ∨ kitOne K t (.type "int") = some false)
/-- a number above 0, or not -/
def AbB (K : Frag) (C : Addr) (H : Hp) (v : V) (b : Bool) : Prop := (∃ q, Nb C H v q ∧ Sz 100 q ∧ b = decide (0 < q.1)) ∨ (NotNum K C H v ∧ b = false)
inductive AfB (K : Frag) (C : Addr) (H : Hp) : V → Bool → Prop
  | str (z : Str) : AfB K C H (.str z) (decide (z = "ever"))
  | odd {v : V} {t : Value} (ty : TyX K H v t) (k1 : kitOne K t (.type "str") = some false) (k2 : kitOne K t (.type "tuple") = some false) : AfB K C H v false
  | len {a : Addr} {xs : List V} (h : H a = some (.tup xs)) (hl : xs.length ≠ 2) : AfB K C H (.ref a) false
  | first {a : Addr} {x y : V} {t : Value} (h : H a = some (.tup [x, y])) (ty : TyX K H x t) (k : kitOne K t (.type "str") = some false) : AfB K C H (.ref a) false
  | doubt {a : Addr} {w : V} {b : Bool} (h : H a = some (.tup [.str "doubt", w])) (hw : AbB K C H w b) : AfB K C H (.ref a) b
  | look {a : Addr} {i : Int} (h : H a = some (.tup [.str "look", .int i])) : AfB K C H (.ref a) (decide (1 ≤ i) && decide (i ≤ 9))
  | lookN {a : Addr} {w : V} (h : H a = some (.tup [.str "look", w])) (hw : NotI K H w) : AfB K C H (.ref a) false
/-- a setting that is right, or not -/
inductive StB (K : Frag) (C : Addr) (H : Hp) : Str → V → Bool → Prop
  | triesN : StB K C H "tries" .non true
  | triesI (i : Int) : StB K C H "tries" (.int i) (decide (0 ≤ i) && decide (i ≤ 6))
  | triesX {v : V} (h : NotI K H v) (hn : v ≠ .non) : StB K C H "tries" v false
  | told {v : V} {b : Bool} (h : AbB K C H v b) : StB K C H "told" v b
  | factor {v : V} {q : Int × Int} (h : Nb C H v q) (hz : Sz 100 q) : StB K C H "factor" v (decide (0 ≤ q.1))
  | factorN {v : V} (h : NotNum K C H v) : StB K C H "factor" v false
  | after {v : V} {b : Bool} (h : AfB K C H v b) : StB K C H "after" v b
  | flag {x : Str} (hx : x ∈ (["equal", "sliding", "keep"] : List Str)) (c : Bool) : StB K C H x (.bl c) true
  | flagN {x : Str} (hx : x ∈ (["equal", "sliding", "keep"] : List Str)) {v : V} {t : Value} (ty : TyX K H v t) (k : kitOne K t (.type "bool") = some false) : StB K C H x v false
/-- names at the top -/
structure BkT (Z : Cz) : Prop where
  str : Z.mg "str" = none
  tuple : Z.mg "tuple" = none
  len : Z.mg "len" = none
  all : Z.mg "all" = none
  ever : ∃ t, Z.mg "EVER" = some (.str "ever" t)
  most : ∃ t, Z.mg "MOST_TRIES" = some (.int 6 t)
  look : ∃ t, Z.mg "MOST_LOOK" = some (.int 9 t)
  fields : ∃ a, Z.mg "FIELDS" = some (.ref a) ∧ ∀ H, SqT Z.K H a [.str "tries", .str "told", .str "factor", .str "equal", .str "sliding", .str "after", .str "keep"]
/-- the shares' own methods -/
structure ShM (Z : Cz) (C : Addr) : Prop where
  gt : CalS Z CX0 6 C "__gt__" ["self", "other"] (spOrd C fun i => decide (0 < i))
  ge : CalS Z CX0 6 C "__ge__" ["self", "other"] (spOrd C fun i => decide (0 ≤ i))
  eq : CalS Z CX0 6 C "__eq__" ["self", "other"] (spShEq Z.K C)
  add : CAdd Z C
  na : NumF Z.K C "add"
  new : CShare Z C
  new1 : CShare1 Z C
  isnum : Cal Z CX0 2 "is_number" ["value"] [] (spIsNum Z.K C)
  isint : Cal Z CX0 1 "is_integer" ["value"] [] (spIsInt Z.K)
def spAbove (K : Frag) (C : Addr) : Sp := fun vs H Q _ => ∃ v b, vs = [v] ∧ AbB K C H v b ∧ ∀ H', Same H H' → Q (.bl b) H'
def spAfter (K : Frag) (C : Addr) : Sp := fun vs H Q _ => ∃ v b, vs = [v] ∧ AfB K C H v b ∧ ∀ H', Same H H' → Q (.bl b) H'
def spSetting (K : Frag) (C : Addr) : Sp := fun vs H Q _ => ∃ x v b, vs = [.str x, v] ∧ StB K C H x v b ∧ ∀ H', Same H H' → Q (.bl b) H'
section
variable {Z : Cz} {f C : Addr} {fd : FuncData}
theorem ok_is_above (F : Fun Z.K "is_above" "is_above" s_is_above f fd) (T : ShT Z C) (M : ShM Z C) : Z.ok CX0 7 f fd ["value"] (spAbove Z.K C) := by
  refine F.ok sc_is_above (fun vs H Q E h => ?_) (fun cdv A outer s H vs Q E hr h => ?_)
  · obtain ⟨v, b, rfl, _⟩ := h
    rfl
  · obtain ⟨v, b, rfl, h, k⟩ := h
    refine ⟨_, (pss_one (ps_ret (pe_and (pe_cal M.isnum (hr.mono (by decide)) (by rfl) pass0 (pa_cons (pv 0) pa_nil)) (pe_one (pe_cmpR (op_both (op_cmp (op := .Gt) M.gt hr pass0) op_gt) (pv 0) pe_int (nomark _)))))), ?_⟩
    rcases h with ⟨q, hq, hz, rfl⟩ | ⟨hn, rfl⟩
    · refine ⟨_, rfl, v, rfl, .inl ⟨⟨q, hq⟩, _, rfl, iteT ?_⟩⟩
      rcases id hq with hs | ⟨i, rfl, rfl⟩
      · refine ⟨_, rfl, .inl ⟨hs.ins, Nb.nf T (.inr ⟨0, rfl, rfl⟩), v, _, q, (0, 1), rfl, hs, .inr ⟨0, rfl, rfl⟩, hz.up (by decide), sz_zero, fun H' e => ?_⟩⟩
        rw [min_zero]
        exact k H' e
      · exact ⟨_, rfl, .inr ⟨_, _, rfl, rfl, k H (Same.refl _)⟩⟩
    · exact ⟨_, rfl, v, rfl, .inr ⟨hn, _, rfl, iteF (k H (Same.refl _))⟩⟩
abbrev CAbove (Z : Cz) (C : Addr) : Prop := Cal Z CX0 7 "is_above" ["value"] [] (spAbove Z.K C)
theorem ok_is_after (F : Fun Z.K "is_after" "is_after" s_is_after f fd) (T : ShT Z C) (B : BkT Z) (M : ShM Z C) (c_is_above : CAbove Z C) : Z.ok CX0 8 f fd ["value"] (spAfter Z.K C) := by
  refine F.ok sc_is_after (fun vs H Q E h => ?_) (fun cdv A outer s H vs Q E hr h => ?_)
  · obtain ⟨v, b, rfl, _⟩ := h
    rfl
  · obtain ⟨v, b, rfl, h, k⟩ := h
    obtain ⟨te, ge⟩ := B.ever
    obtain ⟨tl, gl⟩ := B.look
    refine ⟨_, (pss_cons (ps_if (pt_val (pe_callB call_isi (by rfl) T.isi (by decide +kernel) (pa_cons (pv 0) (pa_cons (pe_ty "str" (by rfl) B.str (by decide +kernel)) pa_nil))))
      (pss_one (ps_ret (pe_cmpR op_eq (pv 0) (pe_glob (v := .str "ever") rfl ge ⟨_, rfl⟩) (nomark _))))
      pss_nil)
      (pss_cons (ps_if (PW.pt (pw_or (pt_not (pt_val (pe_callB call_isi (by rfl) T.isi (by decide +kernel) (pa_cons (pv 0) (pa_cons (pe_ty "tuple" (by rfl) B.tuple (by decide +kernel)) pa_nil))))) (pw_or (pt_cmpR op_ne (pe_callB call_len_seq (by rfl) B.len PySem.boot_len (pa_cons (pv 0) pa_nil)) pe_int (nomark _)) (pw_or1 (pt_not (pt_val (pe_callB call_isi (by rfl) T.isi (by decide +kernel) (pa_cons (pe_ix ix_tup (pv 0) pe_int (fun _ _ => rfl)) (pa_cons (pe_ty "str" (by rfl) B.str (by decide +kernel)) pa_nil)))))))))
      (pss_one (ps_ret pe_bl))
      pss_nil)
      (pss_cons (ps_if (pt_cmpR op_eq (pe_ix ix_tup (pv 0) pe_int (fun _ _ => rfl)) pe_str (nomark _))
      (pss_one (ps_ret (pe_cal c_is_above (hr.mono (by decide)) (by rfl) pass0 (pa_cons (pe_ix ix_tup (pv 0) pe_int (fun _ _ => rfl)) pa_nil))))
      pss_nil)
      (pss_one (ps_ret (pe_and (pe_cmpR op_eq (pe_ix ix_tup (pv 0) pe_int (fun _ _ => rfl)) pe_str (nomark _)) (pe_and (pe_cal M.isint (hr.mono (by decide)) (by rfl) pass0 (pa_cons (pe_ix ix_tup (pv 0) pe_int (fun _ _ => rfl)) pa_nil)) (pe_one (pe_chain op_le op_le pe_int (pe_ix ix_tup (pv 0) pe_int (fun _ _ => rfl)) (pe_glob (v := .int 9) rfl gl ⟨_, rfl⟩)))))))))), ?_⟩
    have k0 := k H (Same.refl _)
    have two : ∀ {a : Addr} {z : Str} {w : V}, H a = some (.tup [.str z, w]) → ∀ {P : Prop}, P → True := fun _ _ _ => trivial
    cases h with
    | str z =>
      refine ⟨_, rfl, _, _, _, _, true, rfl, .ty "str", .base (.str _), kit_ty (by decide +kernel), _, rfl, iteT ?_⟩
      refine ⟨_, rfl, rfl, ?_⟩
      rw [show decide (V.str z = V.str "ever") = decide (z = "ever") from decide_eq_decide.mpr ⟨V.str.inj, fun z => by rw [z]⟩]
      exact k0
    | odd ty k1 k2 =>
      refine ⟨_, rfl, _, _, _, _, false, rfl, .ty "str", ty, k1, _, rfl, iteF ?_⟩
      exact ⟨_, rfl, _, _, _, _, false, rfl, .ty "tuple", ty, k2, _, rfl, iteT k0⟩
    | @len a xs h hl =>
      refine ⟨_, rfl, _, _, _, _, false, rfl, .ty "str", .base (.tup h), kit_ty (by decide +kernel), _, rfl, iteF ?_⟩
      refine ⟨_, rfl, _, _, _, _, true, rfl, .ty "tuple", .base (.tup h), kit_ty (by decide +kernel), _, rfl, iteF ?_⟩
      refine ⟨_, rfl, a, _, rfl, .inr (SqT.of h), rfl, _, rfl, ?_⟩
      rw [decide_eq_false (show ¬ V.int ((xs.length : Nat) : Int) = V.int 2 from fun z => hl (by have := V.int.inj z; omega))]
      exact iteT k0
    | @first a x y t h ty k1 =>
      refine ⟨_, rfl, _, _, _, _, false, rfl, .ty "str", .base (.tup h), kit_ty (by decide +kernel), _, rfl, iteF ?_⟩
      refine ⟨_, rfl, _, _, _, _, true, rfl, .ty "tuple", .base (.tup h), kit_ty (by decide +kernel), _, rfl, iteF ?_⟩
      refine ⟨_, rfl, a, _, rfl, .inr (SqT.of h), rfl, _, rfl, iteNS rfl ?_⟩
      exact ⟨_, rfl, a, _, _, _, rfl, rfl, SqT.of h, rfl, _, _, _, _, false, rfl, .ty "str", ty, k1, _, rfl, iteT k0⟩
    | @doubt a w b h hw =>
      refine ⟨_, rfl, _, _, _, _, false, rfl, .ty "str", .base (.tup h), kit_ty (by decide +kernel), _, rfl, iteF ?_⟩
      refine ⟨_, rfl, _, _, _, _, true, rfl, .ty "tuple", .base (.tup h), kit_ty (by decide +kernel), _, rfl, iteF ?_⟩
      refine ⟨_, rfl, a, _, rfl, .inr (SqT.of h), rfl, _, rfl, iteNS rfl ?_⟩
      refine ⟨_, rfl, a, _, _, _, rfl, rfl, SqT.of h, rfl, _, _, _, _, true, rfl, .ty "str", .base (.str _), kit_ty (by decide +kernel), _, rfl, iteF ?_⟩
      refine ⟨_, rfl, a, _, _, _, rfl, rfl, SqT.of h, rfl, rfl, _, rfl, iteT ?_⟩
      exact ⟨_, rfl, a, _, _, _, rfl, rfl, SqT.of h, rfl, w, _, rfl, hw, k⟩
    | @look a i h =>
      refine ⟨_, rfl, _, _, _, _, false, rfl, .ty "str", .base (.tup h), kit_ty (by decide +kernel), _, rfl, iteF ?_⟩
      refine ⟨_, rfl, _, _, _, _, true, rfl, .ty "tuple", .base (.tup h), kit_ty (by decide +kernel), _, rfl, iteF ?_⟩
      refine ⟨_, rfl, a, _, rfl, .inr (SqT.of h), rfl, _, rfl, iteNS rfl ?_⟩
      refine ⟨_, rfl, a, _, _, _, rfl, rfl, SqT.of h, rfl, _, _, _, _, true, rfl, .ty "str", .base (.str _), kit_ty (by decide +kernel), _, rfl, iteF ?_⟩
      refine ⟨_, rfl, a, _, _, _, rfl, rfl, SqT.of h, rfl, rfl, _, rfl, iteF ?_⟩
      refine ⟨_, rfl, a, _, _, _, rfl, rfl, SqT.of h, rfl, rfl, _, rfl, iteT ?_⟩
      refine ⟨_, rfl, a, _, _, _, rfl, rfl, SqT.of h, rfl, _, _, rfl, .base (.int _), .inl ⟨rfl, _, rfl, iteT ?_⟩⟩
      refine ⟨_, rfl, a, _, _, _, rfl, rfl, SqT.of h, rfl, _, _, rfl, rfl, _, rfl, ?_⟩
      refine iteD (fun h1 => ?_) (fun h1 => ?_)
      · rw [decide_eq_true h1, Bool.true_and] at k0
        exact ⟨_, _, rfl, rfl, k0⟩
      · rw [decide_eq_false h1, Bool.false_and] at k0
        exact k0
    | @lookN a w h hw =>
      refine ⟨_, rfl, _, _, _, _, false, rfl, .ty "str", .base (.tup h), kit_ty (by decide +kernel), _, rfl, iteF ?_⟩
      refine ⟨_, rfl, _, _, _, _, true, rfl, .ty "tuple", .base (.tup h), kit_ty (by decide +kernel), _, rfl, iteF ?_⟩
      refine ⟨_, rfl, a, _, rfl, .inr (SqT.of h), rfl, _, rfl, iteNS rfl ?_⟩
      refine ⟨_, rfl, a, _, _, _, rfl, rfl, SqT.of h, rfl, _, _, _, _, true, rfl, .ty "str", .base (.str _), kit_ty (by decide +kernel), _, rfl, iteF ?_⟩
      refine ⟨_, rfl, a, _, _, _, rfl, rfl, SqT.of h, rfl, rfl, _, rfl, iteF ?_⟩
      refine ⟨_, rfl, a, _, _, _, rfl, rfl, SqT.of h, rfl, rfl, _, rfl, iteT ?_⟩
      obtain ⟨t, ty, hk⟩ := hw
      refine ⟨_, rfl, a, _, _, _, rfl, rfl, SqT.of h, rfl, w, t, rfl, ty, ?_⟩
      rcases hk with rfl | hk
      · exact .inr (.inl ⟨rfl, _, rfl, iteF k0⟩)
      · exact .inr (.inr ⟨hk, _, rfl, iteF k0⟩)
end
end Ps

/-! Books: settings, as kept; a book is made. -/
namespace Ps
open PySem PySem.Spec PyProof.Rows PySem.W L2

inductive Af where
  | ever
  | doubt (q : Int × Int)
  | look (i : Int)
  deriving DecidableEq
structure Bk where
  tries : Option Int
  told : Int × Int
  factor : Int × Int
  equal : Bool
  sliding : Bool
  after : Af
  keep : Bool
  deriving DecidableEq
def trV : Option Int → V
  | none => .non
  | some i => .int i
def AfV (C : Addr) (H : Hp) (v : V) : Af → Prop
  | .ever => v = .str "ever"
  | .doubt q => ∃ a w, v = .ref a ∧ H a = some (.tup [.str "doubt", w]) ∧ Sh C H w q
  | .look i => ∃ a, v = .ref a ∧ H a = some (.tup [.str "look", .int i])
def AfA (C : Addr) (H : Hp) (v : V) : Af → Prop
  | .ever => v = .str "ever"
  | .doubt q => ∃ a w, v = .ref a ∧ H a = some (.tup [.str "doubt", w]) ∧ Nb C H w q
  | .look i => ∃ a, v = .ref a ∧ H a = some (.tup [.str "look", .int i])
theorem AfV.toA {C : Addr} {H : Hp} {v : V} {af : Af} (h : AfV C H v af) : AfA C H v af := by
  cases af with
  | ever => exact h
  | doubt q => obtain ⟨a, w, h1, h2, h3⟩ := h; exact ⟨a, w, h1, h2, .inl h3⟩
  | look i => exact h
theorem AfV.mono {C : Addr} {H H' : Hp} {v : V} {af : Af} (e : Same H H') (h : AfV C H v af) : AfV C H' v af := by
  cases af with
  | ever => exact h
  | doubt q => obtain ⟨a, w, h1, h2, h3⟩ := h; exact ⟨a, w, h1, e _ _ h2, h3.mono e⟩
  | look i => obtain ⟨a, h1, h2⟩ := h; exact ⟨a, h1, e _ _ h2⟩
theorem AfA.mono {C : Addr} {H H' : Hp} {v : V} {af : Af} (e : Same H H') (h : AfA C H v af) : AfA C H' v af := by
  cases af with
  | ever => exact h
  | doubt q => obtain ⟨a, w, h1, h2, h3⟩ := h; exact ⟨a, w, h1, e _ _ h2, h3.mono e⟩
  | look i => obtain ⟨a, h1, h2⟩ := h; exact ⟨a, h1, e _ _ h2⟩
def AfOk : Af → Prop
  | .ever => True
  | .doubt q => Lw q ∧ Sz 100 q ∧ 0 < q.1
  | .look i => 1 ≤ i ∧ i ≤ 9
structure BkOk (b : Bk) : Prop where
  tr : ∀ i, b.tries = some i → 0 ≤ i ∧ i ≤ 6
  tl : Lw b.told
  tz : Sz 100 b.told
  tp : 0 < b.told.1
  fl : Lw b.factor
  fz : Sz 100 b.factor
  fp : 0 ≤ b.factor.1
  af : AfOk b.after
/-- the seven settings -/
def stL (t o f e s a k : V) : List (Key × V) := [(.inr "tries", t), (.inr "told", o), (.inr "factor", f), (.inr "equal", e), (.inr "sliding", s), (.inr "after", a), (.inr "keep", k)]
def stF : List Str := ["tries", "told", "factor", "equal", "sliding", "after", "keep"]
theorem st_tries (t o f e s a k : V) : valV (stL t o f e s a k) (.inr "tries") = some t := rfl
theorem st_told (t o f e s a k : V) : valV (stL t o f e s a k) (.inr "told") = some o := rfl
theorem st_factor (t o f e s a k : V) : valV (stL t o f e s a k) (.inr "factor") = some f := rfl
theorem st_equal (t o f e s a k : V) : valV (stL t o f e s a k) (.inr "equal") = some e := rfl
theorem st_sliding (t o f e s a k : V) : valV (stL t o f e s a k) (.inr "sliding") = some s := rfl
theorem st_after (t o f e s a k : V) : valV (stL t o f e s a k) (.inr "after") = some a := rfl
theorem st_keep (t o f e s a k : V) : valV (stL t o f e s a k) (.inr "keep") = some k := rfl
def Sts (C : Addr) (H : Hp) (d : Addr) (b : Bk) : Prop := ∃ vo vf va, H d = some (.dK (stL (trV b.tries) vo vf (.bl b.equal) (.bl b.sliding) va (.bl b.keep))) ∧ Sh C H vo b.told ∧ Sh C H vf b.factor ∧ AfV C H va b.after
theorem Sts.mono {C d : Addr} {H H' : Hp} {b : Bk} (e : Same H H') (h : Sts C H d b) : Sts C H' d b := by
  obtain ⟨vo, vf, va, h1, h2, h3, h4⟩ := h
  exact ⟨vo, vf, va, e _ _ h1, h2.mono e, h3.mono e, h4.mono e⟩
/-- v is the book b -/
def BkAt (C CB : Addr) (H : Hp) (v : V) (b : Bk) : Prop := ∃ a dx d, v = .ref a ∧ H a = some (.ins CB dx [("settings", .ref d)]) ∧ Sts C H d b ∧ BkOk b
theorem BkAt.mono {C CB : Addr} {H H' : Hp} {v : V} {b : Bk} (e : Same H H') (h : BkAt C CB H v b) : BkAt C CB H' v b := by
  obtain ⟨a, dx, d, h1, h2, h3, h4⟩ := h
  exact ⟨a, dx, d, h1, e _ _ h2, h3.mono e, h4⟩
def spKept (C : Addr) : Sp := fun vs H Q _ => ∃ x v, vs = [.str x, v] ∧
  ((x ∈ (["told", "factor"] : List Str) ∧ ∃ q, Nb C H v q ∧ Sz 100 q ∧ Lw q ∧ ∀ w H', Same H H' → Sh C H' w q → Q w H') ∨
   (x = "after" ∧ ((v = .str "ever" ∧ Q v H) ∨ (∃ a i, v = .ref a ∧ H a = some (.tup [.str "look", .int i]) ∧ Q v H) ∨
      (∃ a w q, v = .ref a ∧ H a = some (.tup [.str "doubt", w]) ∧ Nb C H w q ∧ Sz 100 q ∧ Lw q ∧ ∀ t w' H', Same H H' → H t = none → H' t = some (.tup [.str "doubt", w']) → Sh C H' w' q → Q (.ref t) H'))) ∨
   (x ∈ (["tries", "equal", "sliding", "keep"] : List Str) ∧ Q v H))
section
variable {Z : Cz} {f C : Addr} {fd : FuncData}
abbrev CAfter (Z : Cz) (C : Addr) : Prop := Cal Z CX0 8 "is_after" ["value"] [] (spAfter Z.K C)
theorem ok_is_setting (F : Fun Z.K "is_setting" "is_setting" s_is_setting f fd) (T : ShT Z C) (B : BkT Z) (M : ShM Z C) (c_is_above : CAbove Z C) (c_is_after : CAfter Z C) : Z.ok CX0 9 f fd ["field", "value"] (spSetting Z.K C) := by
  refine F.ok sc_is_setting (fun vs H Q E h => ?_) (fun cdv A outer s H vs Q E hr h => ?_)
  · obtain ⟨x, v, b, rfl, _⟩ := h
    rfl
  · obtain ⟨x, v, b, rfl, h, k⟩ := h
    obtain ⟨tm, gm⟩ := B.most
    refine ⟨_, (pss_cons (ps_if (pt_cmpR op_eq (pv 0) pe_str (nomark _))
      (pss_one (ps_ret (pe_or (pe_cmpR op_isN (pv 1) pe_non (nomark _)) (pe_one (pe_and (pe_cal M.isint (hr.mono (by decide)) (by rfl) pass0 (pa_cons (pv 1) pa_nil)) (pe_one (pe_chain op_le op_le pe_int (pv 1) (pe_glob (v := .int 6) rfl gm ⟨_, rfl⟩))))))))
      pss_nil)
      (pss_cons (ps_if (pt_cmpR op_eq (pv 0) pe_str (nomark _))
      (pss_one (ps_ret (pe_cal c_is_above (hr.mono (by decide)) (by rfl) pass0 (pa_cons (pv 1) pa_nil))))
      pss_nil)
      (pss_cons (ps_if (pt_cmpR op_eq (pv 0) pe_str (nomark _))
      (pss_one (ps_ret (pe_and (pe_cal M.isnum (hr.mono (by decide)) (by rfl) pass0 (pa_cons (pv 1) pa_nil)) (pe_one (pe_cmpR (op_both (op_cmp (op := .GtE) M.ge (hr.mono (by decide)) pass0) op_ge) (pv 1) pe_int (nomark _))))))
      pss_nil)
      (pss_cons (ps_if (pt_cmpR op_eq (pv 0) pe_str (nomark _))
      (pss_one (ps_ret (pe_cal c_is_after (hr.mono (by decide)) (by rfl) pass0 (pa_cons (pv 1) pa_nil))))
      pss_nil)
      (pss_one (ps_ret (pe_callB call_isi (by rfl) T.isi (by decide +kernel) (pa_cons (pv 1) (pa_cons (pe_ty "bool" (by rfl) T.bool (by decide +kernel)) pa_nil))))))))), ?_⟩
    have k0 := k H (Same.refl _)
    cases h with
    | triesN =>
      refine ⟨_, rfl, rfl, _, rfl, iteT ?_⟩
      exact ⟨_, rfl, rfl, _, rfl, iteT k0⟩
    | triesI i =>
      refine ⟨_, rfl, rfl, _, rfl, iteT ?_⟩
      refine ⟨_, rfl, rfl, _, rfl, iteF ?_⟩
      refine ⟨_, rfl, _, _, rfl, .base (.int _), .inl ⟨rfl, _, rfl, iteT ?_⟩⟩
      refine ⟨_, rfl, _, _, rfl, rfl, _, rfl, ?_⟩
      refine iteD (fun h1 => ?_) (fun h1 => ?_)
      · rw [decide_eq_true h1, Bool.true_and] at k0
        exact ⟨_, _, rfl, rfl, k0⟩
      · rw [decide_eq_false h1, Bool.false_and] at k0
        exact k0
    | triesX h hn =>
      refine ⟨_, rfl, rfl, _, rfl, iteT ?_⟩
      refine ⟨_, rfl, rfl, _, rfl, ?_⟩
      rw [decide_eq_false hn]
      refine iteF ?_
      obtain ⟨t, ty, hk⟩ := h
      refine ⟨_, rfl, v, t, rfl, ty, ?_⟩
      rcases hk with rfl | hk
      · exact .inr (.inl ⟨rfl, _, rfl, iteF k0⟩)
      · exact .inr (.inr ⟨hk, _, rfl, iteF k0⟩)
    | told h =>
      refine ⟨_, rfl, rfl, _, rfl, iteF ?_⟩
      refine ⟨_, rfl, rfl, _, rfl, iteT ?_⟩
      exact ⟨_, rfl, v, _, rfl, h, k⟩
    | @factor v q h hz =>
      refine ⟨_, rfl, rfl, _, rfl, iteF ?_⟩
      refine ⟨_, rfl, rfl, _, rfl, iteF ?_⟩
      refine ⟨_, rfl, rfl, _, rfl, iteT ?_⟩
      refine ⟨_, rfl, v, rfl, .inl ⟨⟨q, h⟩, _, rfl, iteT ?_⟩⟩
      rcases id h with hs | ⟨i, rfl, rfl⟩
      · refine ⟨_, rfl, .inl ⟨hs.ins, Nb.nf T (.inr ⟨0, rfl, rfl⟩), v, _, q, (0, 1), rfl, hs, .inr ⟨0, rfl, rfl⟩, hz.up (by decide), sz_zero, fun H' e => ?_⟩⟩
        rw [min_zero]
        exact k H' e
      · exact ⟨_, rfl, .inr ⟨_, _, rfl, rfl, k0⟩⟩
    | factorN h =>
      refine ⟨_, rfl, rfl, _, rfl, iteF ?_⟩
      refine ⟨_, rfl, rfl, _, rfl, iteF ?_⟩
      refine ⟨_, rfl, rfl, _, rfl, iteT ?_⟩
      exact ⟨_, rfl, v, rfl, .inr ⟨h, _, rfl, iteF k0⟩⟩
    | after h =>
      refine ⟨_, rfl, rfl, _, rfl, iteF ?_⟩
      refine ⟨_, rfl, rfl, _, rfl, iteF ?_⟩
      refine ⟨_, rfl, rfl, _, rfl, iteF ?_⟩
      refine ⟨_, rfl, rfl, _, rfl, iteT ?_⟩
      exact ⟨_, rfl, v, _, rfl, h, k⟩
    | flag hx c =>
      simp only [List.mem_cons, List.not_mem_nil, or_false] at hx
      rcases hx with rfl | rfl | rfl <;>
      · refine ⟨_, rfl, rfl, _, rfl, iteF ?_⟩
        refine ⟨_, rfl, rfl, _, rfl, iteF ?_⟩
        refine ⟨_, rfl, rfl, _, rfl, iteF ?_⟩
        refine ⟨_, rfl, rfl, _, rfl, iteF ?_⟩
        exact ⟨_, rfl, _, _, _, _, true, rfl, .ty "bool", .base (.bl _), kit_ty (by decide +kernel), k0⟩
    | flagN hx ty hk =>
      simp only [List.mem_cons, List.not_mem_nil, or_false] at hx
      rcases hx with rfl | rfl | rfl <;>
      · refine ⟨_, rfl, rfl, _, rfl, iteF ?_⟩
        refine ⟨_, rfl, rfl, _, rfl, iteF ?_⟩
        refine ⟨_, rfl, rfl, _, rfl, iteF ?_⟩
        refine ⟨_, rfl, rfl, _, rfl, iteF ?_⟩
        exact ⟨_, rfl, _, _, _, _, false, rfl, .ty "bool", ty, hk, k0⟩
theorem ok_as_kept (F : Fun Z.K "as_kept" "as_kept" s_as_kept f fd) (T : ShT Z C) (M : ShM Z C) : Z.ok CX0 6 f fd ["field", "value"] (spKept C) := by
  refine F.ok sc_as_kept (fun vs H Q E h => ?_) (fun cdv A outer s H vs Q E hr h => ?_)
  · obtain ⟨x, v, rfl, _⟩ := h
    rfl
  · obtain ⟨x, v, rfl, h⟩ := h
    refine ⟨_, (pss_cons (ps_if (PW.pt (pw_or (pt_cmpR op_eq (pv 0) pe_str (nomark _)) (pw_or1 (pt_cmpR op_eq (pv 0) pe_str (nomark _)))))
      (pss_one (ps_ret (pe_op (op_num (op := .Add) M.add M.na hr pass0) (pe_calC M.new1 (hr.mono (by decide)) (by rfl) pass0 (pa_cons pe_int pa_nil)) (pv 1))))
      pss_nil)
      (pss_cons (ps_if (PW.pt (pw_and (pt_cmpR op_eq (pv 0) pe_str (nomark _)) (pw_and1 (pt_cmpR op_eq (pe_ix ix_seq (pv 1) pe_int (fun _ _ => rfl)) pe_str (nomark _)))))
      (pss_one (ps_ret (pe_tup (pa_cons pe_str (pa_cons (pe_op (op_num (op := .Add) M.add M.na hr pass0) (pe_calC M.new1 (hr.mono (by decide)) (by rfl) pass0 (pa_cons pe_int pa_nil)) (pe_ix ix_tup (pv 1) pe_int (fun _ _ => rfl))) pa_nil)))))
      pss_nil)
      (pss_one (ps_ret (pv 1))))), ?_⟩
    have sum : ∀ {w : V} {q : Int × Int} {H1 : Hp} {Q1 : VK}, Nb C H1 w q → Sz 100 q → Lw q → (∀ w' H', Same H1 H' → Sh C H' w' q → Q1 w' H') → ∀ {x : V}, Sh C H1 x (Ps.low 0 1) → rNum C (spBin C 4000 gAdd) E0 x w H1 Q1 := fun {w q H1 Q1} hw hz hl kk {x} hx => by
      refine ⟨hx.ins, hw.num, x, w, _, q, rfl, hx, hw, ⟨by decide +kernel, by decide +kernel, by decide +kernel⟩, hz.up (by decide), fun w' H' e hw' => kk w' H' e ?_⟩
      rw [gAdd_zero hl] at hw'
      exact hw'
    rcases h with ⟨hx, q, hq, hz, hl, k⟩ | ⟨rfl, h⟩ | ⟨hx, k⟩
    · simp only [List.mem_cons, List.not_mem_nil, or_false] at hx
      have main : ∀ xa dx, H xa = none → H dx = none → dx ≠ xa → spShInit C [.ref xa, .int 0, .int 1] (upd (upd H dx (.own xa)) xa (.ins C dx [])) (fun v H2 => v = .non ∧ ∃ y, (start ["field", "value"] [.str x, v])[1]? = some (some y) ∧ True) E0 → True := fun _ _ _ _ _ _ => trivial
      rcases hx with rfl | rfl
      · refine ⟨_, rfl, rfl, _, rfl, iteT ?_⟩
        intro xa dx hxa hdx hne
        refine mk_shI (by decide) (by decide +kernel) hxa hdx hne fun H1 e1 z1 => ⟨rfl, _, rfl, ?_⟩
        exact sum (hq.mono e1) hz hl (fun w' H' e hw => k w' H' (e1.trans e) hw) z1
      · refine ⟨_, rfl, rfl, _, rfl, iteF ⟨_, rfl, rfl, _, rfl, iteT ?_⟩⟩
        intro xa dx hxa hdx hne
        refine mk_shI (by decide) (by decide +kernel) hxa hdx hne fun H1 e1 z1 => ⟨rfl, _, rfl, ?_⟩
        exact sum (hq.mono e1) hz hl (fun w' H' e hw => k w' H' (e1.trans e) hw) z1
    · refine ⟨_, rfl, rfl, _, rfl, iteF ⟨_, rfl, rfl, _, rfl, iteF ?_⟩⟩
      rcases h with ⟨rfl, k⟩ | ⟨a, i, rfl, ha, k⟩ | ⟨a, w, q, rfl, ha, hw, hz, hl, k⟩
      · refine ⟨_, rfl, rfl, _, rfl, iteT ?_⟩
        refine ⟨_, rfl, .inr (.inr ⟨_, _, _, rfl, rfl, (by decide +kernel), rfl, rfl, _, rfl, iteF ?_⟩)⟩
        exact ⟨_, rfl, k⟩
      · refine ⟨_, rfl, rfl, _, rfl, iteT ?_⟩
        refine ⟨_, rfl, .inr (.inl ⟨a, _, _, _, rfl, rfl, SqT.of ha, rfl, rfl, _, rfl, iteF ?_⟩)⟩
        exact ⟨_, rfl, k⟩
      · refine ⟨_, rfl, rfl, _, rfl, iteT ?_⟩
        refine ⟨_, rfl, .inr (.inl ⟨a, _, _, _, rfl, rfl, SqT.of ha, rfl, rfl, _, rfl, iteT ?_⟩)⟩
        intro xa dx hxa hdx hne
        refine mk_shI (by decide) (by decide +kernel) hxa hdx hne fun H1 e1 z1 => ⟨rfl, _, rfl, a, _, _, _, rfl, rfl, SqT.of (e1 _ _ ha), rfl, ?_⟩
        refine sum (hw.mono e1) hz hl (fun w' H' e hw' => ?_) z1
        refine ⟨(by show 2 ≤ sizeLine; decide), fun t ht => ?_⟩
        exact k t w' _ ((e1.trans e).trans (Same.upd ht)) ((e1.trans e).free ht) upd_same (hw'.mono (Same.upd ht))
    · simp only [List.mem_cons, List.not_mem_nil, or_false] at hx
      rcases hx with rfl | rfl | rfl | rfl <;> exact ⟨_, rfl, rfl, _, rfl, iteF ⟨_, rfl, rfl, _, rfl, iteF ⟨_, rfl, rfl, _, rfl, iteF ⟨_, rfl, k⟩⟩⟩⟩
end
end Ps

/-! Books: a book is made; its properties. -/
namespace Ps
open PySem PySem.Spec PyProof.Rows PySem.W L2

/-- the class of books -/
structure BkC (Z : Cz) (CB : Addr) : Prop where
  cl : Cls Z.K CB
  nS : NoAttr Z.K CB "settings"
  mg : Z.mg "Book" = some (.ref CB)
theorem stF_nodup : stF.Nodup := by decide +kernel
def zipK (n : Nat) (ws : List V) : List (Key × V) := ((stF.take n).zip ws).map fun p => (Sum.inr p.1, p.2)
theorem zipK_put {i : Nat} {x : Str} {ws : List V} {w : V} (hx : stF[i]? = some x) (hl : ws.length = i) : putK (zipK i ws) (.inr x) w = zipK (i + 1) (ws ++ [w]) := by
  have hi := (List.getElem?_eq_some_iff.mp hx).1
  have hlt : (stF.take i).length = ws.length := by rw [List.length_take]; omega
  have e1 : stF.take (i + 1) = stF.take i ++ [x] := by rw [List.take_succ, hx]; rfl
  have hn : valV (zipK i ws) (.inr x) = none := by
    have hno : ∀ kv ∈ zipK i ws, ¬ kv.1 = Sum.inr x := by
      intro kv hm he
      unfold zipK at hm
      obtain ⟨p, hp, rfl⟩ := List.mem_map.mp hm
      have hpx : p.1 = x := Sum.inr.inj he
      have h1 := (List.of_mem_zip hp).1
      rw [hpx] at h1
      have hnd : (stF.take i ++ [x]).Nodup := by
        rw [← e1]
        exact List.Sublist.nodup (List.take_sublist _ _) stF_nodup
      exact (List.nodup_append.mp hnd).2.2 x h1 x (by simp) rfl
    unfold valV
    rw [List.find?_eq_none.mpr (fun kv hm => by simpa using hno kv hm)]
    rfl
  rw [putK_new _ hn]
  unfold zipK
  rw [e1, List.zip_append hlt, List.map_append]
  rfl
/-- the i-th kept setting of b -/
def KpR (C : Addr) (H : Hp) (b : Bk) : Nat → V → Prop
  | 0, w => w = trV b.tries
  | 1, w => Sh C H w b.told
  | 2, w => Sh C H w b.factor
  | 3, w => w = .bl b.equal
  | 4, w => w = .bl b.sliding
  | 5, w => AfV C H w b.after
  | 6, w => w = .bl b.keep
  | _, _ => False
theorem KpR.mono {C : Addr} {H H' : Hp} {b : Bk} (e : Same H H') {i : Nat} {w : V} (h : KpR C H b i w) : KpR C H' b i w := by
  rcases i with _ | _ | _ | _ | _ | _ | _ | i
  · exact h
  · exact Sh.mono e h
  · exact Sh.mono e h
  · exact h
  · exact h
  · exact AfV.mono e h
  · exact h
  · exact h
/-- what a book may be made of -/
structure BkArg (C : Addr) (H : Hp) (vo vf va : V) (b : Bk) : Prop where
  ok : BkOk b
  told : Nb C H vo b.told
  factor : Nb C H vf b.factor
  after : AfA C H va b.after
theorem BkArg.mono {C : Addr} {H H' : Hp} {vo vf va : V} {b : Bk} (e : Same H H') (h : BkArg C H vo vf va b) : BkArg C H' vo vf va b := ⟨h.ok, h.told.mono e, h.factor.mono e, h.after.mono e⟩
def spBook (C CB : Addr) : Sp := fun vs H Q _ => ∃ x dx vo vf va b, vs = [.ref x, trV b.tries, vo, vf, .bl b.equal, .bl b.sliding, va, .bl b.keep] ∧ H x = some (.ins CB dx []) ∧ BkArg C H vo vf va b ∧
  ∀ d H', Keep x H H' → H' x = some (.ins CB dx [("settings", .ref d)]) → Sts C H' d b → Q .non H'
theorem tr_setting {K : Frag} {C : Addr} {H : Hp} {b : Bk} (h : BkOk b) : StB K C H "tries" (trV b.tries) true := by
  cases ht : b.tries with
  | none => exact .triesN
  | some i =>
    obtain ⟨h1, h2⟩ := h.tr i ht
    have := StB.triesI (K := K) (C := C) (H := H) i
    rw [decide_eq_true h1, decide_eq_true h2] at this
    exact this
theorem ab_true {K : Frag} {C : Addr} {H : Hp} {v : V} {q : Int × Int} (h : Nb C H v q) (hz : Sz 100 q) (hp : 0 < q.1) : AbB K C H v true := .inl ⟨q, h, hz, (decide_eq_true hp).symm⟩
theorem af_setting {K : Frag} {C : Addr} {H : Hp} {v : V} {af : Af} (h : AfA C H v af) (ho : AfOk af) : AfB K C H v true := by
  cases af with
  | ever =>
    obtain rfl : v = .str "ever" := h
    exact .str "ever"
  | doubt q =>
    obtain ⟨a, w, rfl, ha, hw⟩ := h
    exact .doubt ha (ab_true hw ho.2.1 ho.2.2)
  | look i =>
    obtain ⟨a, rfl, ha⟩ := h
    have := AfB.look (K := K) (C := C) ha
    rw [decide_eq_true ho.1, decide_eq_true ho.2] at this
    exact this
/-- the i-th given setting -/
theorem set_i {K : Frag} {C : Addr} {H : Hp} {vo vf va : V} {b : Bk} (h : BkArg C H vo vf va b) {i : Nat} {x : Str} (hx : stF[i]? = some x) : ∃ v, valV (stL (trV b.tries) vo vf (.bl b.equal) (.bl b.sliding) va (.bl b.keep)) (.inr x) = some v ∧ StB K C H x v true := by
  have hm := List.mem_of_getElem? hx
  simp only [stF, List.mem_cons, List.not_mem_nil, or_false] at hm
  rcases hm with rfl | rfl | rfl | rfl | rfl | rfl | rfl
  · exact ⟨_, st_tries .., tr_setting h.ok⟩
  · exact ⟨_, st_told .., .told (ab_true h.told h.ok.tz h.ok.tp)⟩
  · have := StB.factor (K := K) h.factor h.ok.fz
    rw [decide_eq_true h.ok.fp] at this
    exact ⟨_, st_factor .., this⟩
  · exact ⟨_, st_equal .., .flag (by simp) _⟩
  · exact ⟨_, st_sliding .., .flag (by simp) _⟩
  · exact ⟨_, st_after .., .after (af_setting h.after h.ok.af)⟩
  · exact ⟨_, st_keep .., .flag (by simp) _⟩
/-- the i-th setting is kept -/
theorem kept_i {C : Addr} {H : Hp} {vo vf va : V} {b : Bk} (h : BkArg C H vo vf va b) {i : Nat} {x : Str} (hx : stF[i]? = some x) {Q : VK} {E : XK} (k : ∀ w H', Same H H' → KpR C H' b i w → Q w H') : ∃ v, valV (stL (trV b.tries) vo vf (.bl b.equal) (.bl b.sliding) va (.bl b.keep)) (.inr x) = some v ∧ spKept C [.str x, v] H Q E := by
  rcases i with _ | _ | _ | _ | _ | _ | _ | i
  · obtain rfl := Option.some.inj hx
    exact ⟨_, st_tries .., _, _, rfl, .inr (.inr ⟨by simp, k _ H (Same.refl _) rfl⟩)⟩
  · obtain rfl := Option.some.inj hx
    exact ⟨_, st_told .., _, _, rfl, .inl ⟨by simp, _, h.told, h.ok.tz, h.ok.tl, fun w H' e hw => k w H' e hw⟩⟩
  · obtain rfl := Option.some.inj hx
    exact ⟨_, st_factor .., _, _, rfl, .inl ⟨by simp, _, h.factor, h.ok.fz, h.ok.fl, fun w H' e hw => k w H' e hw⟩⟩
  · obtain rfl := Option.some.inj hx
    exact ⟨_, st_equal .., _, _, rfl, .inr (.inr ⟨by simp, k _ H (Same.refl _) rfl⟩)⟩
  · obtain rfl := Option.some.inj hx
    exact ⟨_, st_sliding .., _, _, rfl, .inr (.inr ⟨by simp, k _ H (Same.refl _) rfl⟩)⟩
  · obtain rfl := Option.some.inj hx
    refine ⟨_, st_after .., _, _, rfl, .inr (.inl ⟨rfl, ?_⟩)⟩
    have ha := h.after
    have ho := h.ok.af
    cases haf : b.after with
    | ever =>
      rw [haf] at ha
      obtain rfl : va = .str "ever" := ha
      exact .inl ⟨rfl, k _ H (Same.refl _) (by show AfV C H _ b.after; rw [haf]; exact rfl)⟩
    | doubt q =>
      rw [haf] at ha ho
      obtain ⟨a, w, rfl, h1, h2⟩ := ha
      exact .inr (.inr ⟨a, w, q, rfl, h1, h2, ho.2.1, ho.1, fun t w' H' e _ ht hw => k _ H' e (by show AfV C H' _ b.after; rw [haf]; exact ⟨t, w', rfl, ht, hw⟩)⟩)
    | look i =>
      rw [haf] at ha
      obtain ⟨a, rfl, h1⟩ := ha
      exact .inr (.inl ⟨a, i, rfl, h1, k _ H (Same.refl _) (by show AfV C H _ b.after; rw [haf]; exact ⟨a, rfl, h1⟩)⟩)
  · obtain rfl := Option.some.inj hx
    exact ⟨_, st_keep .., _, _, rfl, .inr (.inr ⟨by simp, k _ H (Same.refl _) rfl⟩)⟩
  · exact absurd (List.getElem?_eq_some_iff.mp hx).1 (by show ¬ i + 7 < 7; omega)
theorem vec7 {ws : List V} (h : ws.length = 7) : ∃ a b c d e f g, ws = [a, b, c, d, e, f, g] := by
  match ws, h with
  | [a, b, c, d, e, f, g], _ => exact ⟨a, b, c, d, e, f, g, rfl⟩
section
variable {Z : Cz} {f C CB : Addr} {fd : FuncData}
abbrev CSetting (Z : Cz) (C : Addr) : Prop := Cal Z CX0 9 "is_setting" ["field", "value"] [] (spSetting Z.K C)
abbrev CKept (Z : Cz) (C : Addr) : Prop := Cal Z CX0 6 "as_kept" ["field", "value"] [] (spKept C)
theorem ok_Book {kws : List (Str × V)} (F : FunD Z.K "__init__" "Book.__init__" (defArgs s_Book_dd_init) (defBody s_Book_dd_init) (defScope s_Book_dd_init) [] kws f fd) (B : BkT Z) (K : BkC Z CB) (c_is_setting : CSetting Z C) (c_as_kept : CKept Z C) :
    Z.ok CX0 10 f fd ["self", "tries", "told", "factor", "equal", "sliding", "after", "keep"] (spBook C CB) := by
  refine FunD.ok F sc_Book_dd_init (fun vs H Q E h => ?_) (fun cdv A outer s H vs Q E hr h => ?_)
  · obtain ⟨x, dx, vo, vf, va, b, rfl, _⟩ := h
    rfl
  · obtain ⟨x, dx, vo, vf, va, b, rfl, hx, ha, k⟩ := h
    obtain ⟨aF, gF, sF⟩ := B.fields
    refine ⟨_, PSs.nox (pss_cons (ps_set (i := 8) sc_Book_dd_init.nd rfl (Or.inr rfl) (pe_disp (pps_cons pe_str (pv 1) (pps_cons pe_str (pv 2) (pps_cons pe_str (pv 3) (pps_cons pe_str (pv 4) (pps_cons pe_str (pv 5) pps_nil))))) (by rfl) (by rfl) (fun z => by cases z) (by decide)))
      (pss_cons (ps_set (i := 8) sc_Book_dd_init.nd rfl (Or.inr rfl) (pe_dispM (pv 8) (pps_cons pe_str (pv 6) (pps_cons pe_str (pv 7) pps_nil)) (by rfl) (by rfl) (fun z => by cases z) (by decide)))
      (pss_cons (ps_for PassesOwn.never rfl (pi_tup (pe_glob (v := .ref aF) rfl gF rfl)) (pg_name (i := 9) sc_Book_dd_init.nd rfl (Or.inl rfl))
      (pss_one (ps_if (pt_not (pt_val (pe_cal c_is_setting (hr.mono (by decide)) (by rfl) pass0 (pa_cons (pv 9) (pa_cons (pe_dget (hu_of hr) (pv 8) (pv 9) (fun _ _ => rfl)) pa_nil)))))
        (pss_one ps_never)
        pss_nil)))
      (pss_one (ps_fld (pv 0) (pe_dc (own := [("field", 9)]) (g := gName 9) (tt := tYes) (by rfl) sc_Book_dd_init.nd (pi_tup (pe_glob (v := .ref aF) rfl gF rfl)) (blkOk_by (own := [("field", 9)]) (N := ["self", "tries", "told", "factor", "equal", "sliding", "after", "keep", "given", "field"]) (sc := defScope s_Book_dd_init) (by decide +kernel)) (fun _ _ _ _ _ => (pg_name (i := 9) sc_Book_dd_init.nd rfl (Or.inl rfl))) (fun _ _ _ _ _ => pts_nil) (fun _ _ _ _ _ => (pv 9)) (fun _ _ _ _ _ => (pe_cal c_as_kept (hr.mono (by decide)) (by rfl) pass0 (pa_cons (pv 9) (pa_cons (pe_dget (hu_of hr) (pv 8) (pv 9) (fun _ _ => rfl)) pa_nil))))) rfl))))), ?_⟩
    intro p hp
    refine ⟨_, rfl, _, rfl, _, rfl, _, rfl, _, rfl, upd_same, [(.inr "tries", trV b.tries), (.inr "told", vo), (.inr "factor", vf), (.inr "equal", .bl b.equal), (.inr "sliding", .bl b.sliding)], rfl, (by show 5 ≤ 15; decide), ?_⟩
    have e1 : Same H (upd (upd H p (.dK [])) p (.dK (mergeK [] [(.inr "tries", trV b.tries), (.inr "told", vo), (.inr "factor", vf), (.inr "equal", .bl b.equal), (.inr "sliding", .bl b.sliding)]))) := fun c o h => by
      rw [upd_ne (ne_of_none h hp), upd_ne (ne_of_none h hp)]; exact h
    have hp1 : (upd (upd H p (.dK [])) p (.dK (mergeK [] [(.inr "tries", trV b.tries), (.inr "told", vo), (.inr "factor", vf), (.inr "equal", .bl b.equal), (.inr "sliding", .bl b.sliding)]))) p = some (.dK [(.inr "tries", trV b.tries), (.inr "told", vo), (.inr "factor", vf), (.inr "equal", .bl b.equal), (.inr "sliding", .bl b.sliding)]) := upd_same
    generalize (upd (upd H p (.dK [])) p (.dK (mergeK [] [(.inr "tries", trV b.tries), (.inr "told", vo), (.inr "factor", vf), (.inr "equal", .bl b.equal), (.inr "sliding", .bl b.sliding)]))) = H1 at e1 hp1
    intro p2 hp2
    have hne : p2 ≠ p := (ne_of_none hp1 hp2).symm
    refine ⟨_, rfl, p, _, rfl, .inl (by rw [upd_ne hne.symm]; exact hp1), upd_same, hne, (by show 5 ≤ 100; decide), fun q hq => ?_⟩
    have hq2 : p2 ≠ q := ne_of_none upd_same hq
    refine ⟨_, rfl, _, rfl, upd_same, (by rw [upd_ne hq2]; exact upd_same), hq2, [(.inr "after", va), (.inr "keep", .bl b.keep)], rfl, (by show 2 ≤ 15; decide), ?_⟩
    have hqH1 : H1 q = none := by
      rw [upd_ne hq2.symm, upd_ne hq2.symm] at hq
      exact hq
    show tSeq _ _ _ _ (upd (upd (upd (upd (upd H1 p2 (.dK [])) p2 (.dK _)) q (.dK [])) q (.dK _)) p2 (.dK (stL (trV b.tries) vo vf (.bl b.equal) (.bl b.sliding) va (.bl b.keep))))
    have e2 : ∀ o1 o2 o3 o4 o5, Same H1 (upd (upd (upd (upd (upd H1 p2 o1) p2 o2) q o3) q o4) p2 o5) := fun o1 o2 o3 o4 o5 c o h => by
      rw [upd_ne (ne_of_none h hp2), upd_ne (ne_of_none h hqH1), upd_ne (ne_of_none h hqH1), upd_ne (ne_of_none h hp2), upd_ne (ne_of_none h hp2)]
      exact h
    have hp3 : ∀ o1 o2 o3 o4 o5, (upd (upd (upd (upd (upd H1 p2 o1) p2 o2) q o3) q o4) p2 o5) p2 = some o5 := fun _ _ _ _ _ => upd_same
    generalize hH3 : (upd (upd (upd (upd (upd H1 p2 (.dK [])) p2 (.dK _)) q (.dK [])) q (.dK _)) p2 (.dK (stL (trV b.tries) vo vf (.bl b.equal) (.bl b.sliding) va (.bl b.keep)))) = H3
    have e3 : Same H H3 := by rw [← hH3]; exact e1.trans (e2 _ _ _ _ _)
    have hg : H3 p2 = some (.dK (stL (trV b.tries) vo vf (.bl b.equal) (.bl b.sliding) va (.bl b.keep))) := by rw [← hH3]; exact hp3 _ _ _ _ _
    clear hH3 hp3 e2
    have ha3 := ha.mono e3
    have sl : ∀ H', SqT Z.K H' aF (stF.map V.str) := sF
    -- the tests
    refine ⟨aF, rfl, ⟨_, sF H3⟩, for_tup (K := Z.K) (a := aF) (xs := stF.map V.str) (fun i σ H' => ∃ o, σ = [some (.ref x), some (trV b.tries), some vo, some vf, some (.bl b.equal), some (.bl b.sliding), some va, some (.bl b.keep), some (.ref p2), o] ∧ Same H3 H') ⟨_, rfl, Same.refl _⟩ (fun i σ H' _ _ => sl H') ?_ ?_⟩
    · rintro i y σ H4 hy ⟨o, rfl, e4⟩
      rw [List.getElem?_map] at hy
      obtain ⟨z, hz, rfl⟩ := Option.map_eq_some_iff.mp hy
      obtain ⟨v, hv, hs⟩ := set_i (K := Z.K) (ha3.mono e4) hz
      have hd : DGet H4 p2 (.str z) (some v) := by rw [← hv]; exact DGet.k (k := .inr z) (e4 _ _ hg)
      refine ⟨_, rfl, _, rfl, _, rfl, p2, v, rfl, hd, z, v, true, rfl, hs, fun H5 e5 => ?_⟩
      exact ⟨_, rfl, iteF ⟨_, rfl, e4.trans e5⟩⟩
    rintro σ H4 ⟨o, rfl, e4⟩
    have ha4 := ha3.mono e4
    have hg4 := e4 _ _ hg
    -- the settings
    refine ⟨aF, rfl, ⟨_, sF H4⟩, fun D hD => ?_⟩
    refine dc_tup (K := Z.K) (a := aF) (xs := stF.map V.str) (fun i H' => ∃ ws : List V, ws.length = i ∧ H' D = some (.dK (zipK i ws)) ∧ (∀ j w, ws[j]? = some w → KpR C H' b j w) ∧ Same H4 H') ⟨[], rfl, upd_same, (fun j w h => by simp at h), Same.upd hD⟩ (fun i H' _ _ => sl H') ?_ ?_
    · rintro i y H5 hy ⟨ws, hl, hD5, hw, e5⟩
      rw [List.getElem?_map] at hy
      obtain ⟨z, hz, rfl⟩ := Option.map_eq_some_iff.mp hy
      refine ⟨rfl, ?_⟩
      have hi : i < 7 := (List.getElem?_eq_some_iff.mp hz).1
      obtain ⟨v, hv, hs⟩ := kept_i (E := E0) (Q := fun w H6 => ∃ kvs k, V.str z = kV k ∧ H6 D = some (.dK kvs) ∧ kvs.length < sizeLine ∧ ∃ ws : List V, ws.length = i + 1 ∧ (upd H6 D (.dK (putK kvs k w))) D = some (.dK (zipK (i + 1) ws)) ∧ (∀ j w', ws[j]? = some w' → KpR C (upd H6 D (.dK (putK kvs k w))) b j w') ∧ Same H4 (upd H6 D (.dK (putK kvs k w)))) (ha4.mono e5) hz fun w H6 e6 hk => by
        refine ⟨zipK i ws, .inr z, rfl, e6 _ _ hD5, ?_, ws ++ [w], ?_, ?_, ?_, ?_⟩
        · unfold zipK
          rw [List.length_map, List.length_zip, List.length_take]
          exact small1000' (by omega)
        · rw [List.length_append, hl]; rfl
        · rw [upd_same, zipK_put hz hl]
        · have ek : ∀ {j : Nat} {w' : V}, KpR C H6 b j w' → KpR C (upd H6 D (.dK (putK (zipK i ws) (.inr z) w))) b j w' := fun {j w'} h => by
            have nd : Nd H6 (upd H6 D (.dK (putK (zipK i ws) (.inr z) w))) := fun c o hc hn => by
              rw [upd_ne (fun hz => by rw [hz, e6 _ _ hD5] at hc; exact hn _ (Option.some.inj hc).symm)]
              exact hc
            have sh : ∀ {v : V} {q : Int × Int}, Sh C H6 v q → Sh C (upd H6 D (.dK (putK (zipK i ws) (.inr z) w))) v q := fun {v q} ⟨a, dx, h1, h2⟩ => ⟨a, dx, h1, nd _ _ h2 (fun _ z => nomatch z)⟩
            rcases j with _ | _ | _ | _ | _ | _ | _ | j
            · exact h
            · exact sh h
            · exact sh h
            · exact h
            · exact h
            · show AfV C _ _ b.after
              have h : AfV C H6 w' b.after := h
              cases haf : b.after with
              | ever => rw [haf] at h; exact h
              | doubt q => rw [haf] at h; obtain ⟨a, w2, h1, h2, h3⟩ := h; exact ⟨a, w2, h1, nd _ _ h2 (fun _ z => nomatch z), sh h3⟩
              | look i => rw [haf] at h; obtain ⟨a, h1, h2⟩ := h; exact ⟨a, h1, nd _ _ h2 (fun _ z => nomatch z)⟩
            · exact h
            · exact h
          intro j w' hj
          by_cases hjl : j < ws.length
          · rw [List.getElem?_append_left hjl] at hj
            exact ek ((hw j w' hj).mono e6)
          · rw [List.getElem?_append_right (by omega)] at hj
            have hj0 : j = ws.length := by
              have := (List.getElem?_eq_some_iff.mp hj).1
              simp at this
              omega
            subst hj0
            simp at hj
            subst hj
            rw [hl]
            exact ek hk
        · intro c o hc
          rw [upd_ne (ne_of_none hc hD)]
          exact e6 _ _ (e5 _ _ hc)
      have hd : DGet H5 p2 (.str z) (some v) := by rw [← hv]; exact DGet.k (k := .inr z) (e5 _ _ hg4)
      exact ⟨_, rfl, _, rfl, _, rfl, _, rfl, p2, v, rfl, hd, hs⟩
    · rintro H5 ⟨ws, hl, hD5, hw, e5⟩
      have hl : ws.length = 7 := hl
      obtain ⟨w0, w1, w2, w3, w4, w5, w6, rfl⟩ := vec7 hl
      have h0 : w0 = trV b.tries := hw 0 _ rfl
      have h3 : w3 = .bl b.equal := hw 3 _ rfl
      have h4 : w4 = .bl b.sliding := hw 4 _ rfl
      have h6 : w6 = .bl b.keep := hw 6 _ rfl
      subst h0 h3 h4 h6
      have e05 : Same H H5 := (e3.trans e4).trans e5
      refine ⟨_, rfl, x, CB, dx, [], rfl, e05 _ _ hx, K.cl, K.nS, (by show 0 < 1000; decide), ?_⟩
      have nd : ∀ c o, H5 c = some o → (∀ dx fs, o ≠ .ins CB dx fs) ∨ c ≠ x → (upd H5 x (.ins CB dx (putF "settings" (.ref D) []))) c = some o := fun c o hc hn => by
        have : c ≠ x := by
          rcases hn with hn | hn
          · intro z
            rw [z, e05 _ _ hx] at hc
            exact hn _ _ (Option.some.inj hc).symm
          · exact hn
        rw [upd_ne this]
        exact hc
      have hDx : D ≠ x := fun z => by
        rw [z, e05 _ _ hx] at hD5
        cases hD5
      have shx : ∀ {v : V} {q : Int × Int}, Sh C H5 v q → Sh C (upd H5 x (.ins CB dx (putF "settings" (.ref D) []))) v q := fun {v q} ⟨a, dy, h1, h2⟩ => ⟨a, dy, h1, nd _ _ h2 (.inr fun z => by
        rw [z, e05 _ _ hx] at h2
        cases h2)⟩
      refine k D _ (fun c hc o ho => by rw [upd_ne hc]; exact e05 _ _ ho) upd_same ⟨w1, w2, w5, ?_, shx (hw 1 _ rfl), shx (hw 2 _ rfl), ?_⟩
      · rw [upd_ne hDx]
        exact hD5
      · have h : AfV C H5 w5 b.after := hw 5 _ rfl
        cases haf : b.after with
        | ever => rw [haf] at h; exact h
        | doubt q => rw [haf] at h; obtain ⟨a, w2, h1, h2, h3⟩ := h; exact ⟨a, w2, h1, nd _ _ h2 (.inl fun _ _ z => nomatch z), shx h3⟩
        | look i => rw [haf] at h; obtain ⟨a, h1, h2⟩ := h; exact ⟨a, h1, nd _ _ h2 (.inl fun _ _ z => nomatch z)⟩
end
end Ps

/-! == of a dict with itself. -/
namespace Ps
open PySem PySem.Spec PyProof.Rows PySem.W L2
theorem valueAt_at {κ : Type} [DecidableEq κ] : ∀ {kvs : List (κ × Value)} {i : Nat} {k : κ} {v : Value}, (kvs.map (·.1)).Nodup → kvs[i]? = some (k, v) → valueAt kvs k = some v
  | [], _, _, _, _, h => by simp at h
  | (k0, v0) :: r, 0, k, v, _, h => by
    obtain ⟨rfl, rfl⟩ := Prod.mk.inj (Option.some.inj h)
    simp [valueAt, List.find?_cons]
  | (k0, v0) :: r, i + 1, k, v, hn, h => by
    rw [List.map_cons, List.nodup_cons] at hn
    have hr : r[i]? = some (k, v) := h
    have hm : k ∈ r.map (·.1) := List.mem_map.mpr ⟨(k, v), List.mem_of_getElem? hr, rfl⟩
    have hne : ¬ k0 = k := fun z => hn.1 (z ▸ hm)
    have := valueAt_at hn.2 hr
    simp only [valueAt, List.find?_cons] at this ⊢
    rw [decide_eq_false hne]
    exact this
def DDctS : Eqb := fun x y b H => ∃ a ks, x = .ref a ∧ y = .ref a ∧ H a = some (.dK ks) ∧ b = true
theorem hits_self {A : Around} {s : Shared} {κ : Type} [DecidableEq κ] {kb : List (κ × Value)} : ∀ {l : List (κ × Value)}, (∀ p ∈ l, valueAt kb p.1 = some p.2) → KeqHits A s kb l true
  | [], _ => .nil
  | (k, v) :: r, h => by
    have := KeqHits.hit (A := A) (s := s) (h (k, v) (List.mem_cons_self ..)) (SeqAt.EqAt.same v) (hits_self fun p hp => h p (List.mem_cons_of_mem _ hp))
    simpa using this
section
variable {X : Cx} {n : Nat} {D D' : Eqb}
theorem RcB.or (h : RcB X n D) (h' : RcB X n D') : RcB X n (fun x y b H => D x y b H ∨ D' x y b H) := fun A pins s σ H x y b u v sb I rx ry d =>
  d.elim (fun d => h A pins s σ H x y b u v sb I rx ry d) fun d => h' A pins s σ H x y b u v sb I rx ry d
theorem rcB_dctS : RcB X 0 DDctS := by
  intro A pins s σ H x y b u v sb I rx ry d
  obtain ⟨a, ks, rfl, rfl, ha, rfl⟩ := d
  cases rx
  cases ry
  obtain ⟨_, ya, va, ra, da⟩ := (show ObjOk X.prog X.w H s.heap a (.dK ks) from I.hok a _ ha)
  have hnd : (va.map (·.1)).Nodup := by obtain ⟨_, _, _, _, _, _, _, _, h⟩ := da; exact h
  show wpAny _ _ (compareOp .Eq _ _) _ _ _
  refine PySem.W.keq_eq (knd := mixKind X.prog X.w) (r := true) ya ya da da sb.room.units0 (fun _ => hits_self fun p hp => ?_) ⟨by simp, H, I, Same.refl _⟩
  obtain ⟨i, hi, he⟩ := List.mem_iff_getElem.mp hp
  exact valueAt_at hnd (by rw [List.getElem?_eq_getElem hi, he])
theorem EqD.step {H : Hp} {ls r : List (Key × V)} {k : Key} {v y : V} {e b : Bool} (hy : valV ls k = some y) (d : D v y e H) (h : EqD D H ls r b) : EqD D H ls ((k, v) :: r) (e && b) := by
  cases e with
  | false => exact .no hy d
  | true => exact .yes hy d h
end
end Ps

/-! Books: ==, properties. -/
namespace Ps
open PySem PySem.Spec PyProof.Rows PySem.W L2

/-- what may stand in a tuple of a setting -/
def dIn (C : Addr) : Eqb := fun x y b H => DFl x y b H ∨ DOwn C (shR C) x y b H
/-- what may be a setting -/
def dB (K : Frag) (C : Addr) : Eqb := fun x y b H => dIn C x y b H ∨ (DFT K x y b H ∨ DTupB K (dIn C) x y b H)
theorem mon_in {C : Addr} : MonB (dIn C) := MonB.or mon_fl (mon_own mon_shR)
theorem mon_dB {K : Frag} {C : Addr} : MonB (dB K C) := MonB.or mon_in (MonB.or mon_ft (mon_tupB mon_in))
section
variable {Z : Cz} {X : Cx} {C : Addr}
theorem eqB_in (M : ShM Z C) (z : InZ Z X) : EqB X 6 (dIn C) := EqB.or (eqB_fl.mono (Nat.zero_le _)) (eqB_own M.eq sh_sp z)
theorem eqB_dB (M : ShM Z C) (z : InZ Z X) : EqB X 7 (dB Z.K C) := by
  have h2 := eqB_ft (X := X)
  have h3 := eqB_tup (X := X) mon_in (eqB_in M z)
  rw [z.K] at h2 h3
  exact EqB.or ((eqB_in M z).mono (by decide)) (EqB.or (h2.mono (Nat.zero_le _)) h3)
end
theorem eqV_tr (a b : Option Int) : eqV (trV a) (trV b) = decide (a = b) := by
  cases a with
  | none =>
    cases b with
    | none => rfl
    | some j => rfl
  | some i =>
    cases b with
    | none => rfl
    | some j =>
      show (i == j) = _
      by_cases h : i = j
      · subst h; simp
      · have : ¬ (some i = some j) := fun z => h (Option.some.inj z)
        rw [decide_eq_false this]
        simpa using h
theorem eqV_bl (a b : Bool) : eqV (.bl a) (.bl b) = decide (a = b) := by cases a <;> cases b <;> rfl
theorem flat_tr (a : Option Int) : flatV (trV a) = true := by cases a <;> rfl
theorem af_eq {K : Frag} {C : Addr} {H : Hp} {v w : V} {a1 a2 : Af} (h1 : AfV C H v a1) (h2 : AfV C H w a2) (o1 : AfOk a1) (o2 : AfOk a2) : dB K C v w (decide (a1 = a2)) H := by
  cases a1 with
  | ever =>
    obtain rfl : v = .str "ever" := h1
    cases a2 with
    | ever =>
      obtain rfl : w = .str "ever" := h2
      exact .inl (.inl ⟨rfl, rfl, rfl⟩)
    | doubt q =>
      obtain ⟨a, x, rfl, ha, _⟩ := h2
      exact .inr (.inl ⟨rfl, _, a, _, SqT.of ha, .inl ⟨rfl, rfl⟩⟩)
    | look i =>
      obtain ⟨a, rfl, ha⟩ := h2
      exact .inr (.inl ⟨rfl, _, a, _, SqT.of ha, .inl ⟨rfl, rfl⟩⟩)
  | doubt q =>
    obtain ⟨a, x, rfl, ha, hx⟩ := h1
    cases a2 with
    | ever =>
      obtain rfl : w = .str "ever" := h2
      exact .inr (.inl ⟨rfl, _, a, _, SqT.of ha, .inr ⟨rfl, rfl⟩⟩)
    | doubt r =>
      obtain ⟨c, y, rfl, hc, hy⟩ := h2
      have e : decide (Af.doubt q = Af.doubt r) = decide (gMin q r = 0) := decide_eq_decide.mpr ⟨fun z => (gMin_eq o1.1 o2.1).mpr (Af.doubt.inj z), fun z => by rw [(gMin_eq o1.1 o2.1).mp z]⟩
      rw [e]
      refine .inr (.inr ⟨a, c, _, _, rfl, rfl, SqT.of ha, SqT.of hc, .yes (.inl ⟨rfl, rfl, rfl⟩) ?_, fun z => ?_⟩)
      · cases hb : decide (gMin q r = 0) with
        | false => exact .no (.inr (hb ▸ own_sh hx hy (o1.2.1.up (by decide)) (o2.2.1.up (by decide))))
        | true => exact .yes (.inr (hb ▸ own_sh hx hy (o1.2.1.up (by decide)) (o2.2.1.up (by decide)))) .nil
      · subst z
        rw [ha] at hc
        have hxy := HO.tup.inj (Option.some.inj hc)
        simp only [List.cons.injEq, true_and, and_true] at hxy
        subst hxy
        rw [hx.inj hy]
        exact decide_eq_true (by unfold gMin; omega)
    | look i =>
      obtain ⟨c, rfl, hc⟩ := h2
      refine .inr (.inr ⟨a, c, _, _, rfl, rfl, SqT.of ha, SqT.of hc, .no (.inl ⟨rfl, rfl, rfl⟩), fun z => ?_⟩)
      subst z
      rw [ha] at hc
      cases hc
  | look i =>
    obtain ⟨a, rfl, ha⟩ := h1
    cases a2 with
    | ever =>
      obtain rfl : w = .str "ever" := h2
      exact .inr (.inl ⟨rfl, _, a, _, SqT.of ha, .inr ⟨rfl, rfl⟩⟩)
    | doubt r =>
      obtain ⟨c, y, rfl, hc, hy⟩ := h2
      refine .inr (.inr ⟨a, c, _, _, rfl, rfl, SqT.of ha, SqT.of hc, .no (.inl ⟨rfl, rfl, rfl⟩), fun z => ?_⟩)
      subst z
      rw [ha] at hc
      cases hc
    | look j =>
      obtain ⟨c, rfl, hc⟩ := h2
      have e : decide (Af.look i = Af.look j) = decide (i = j) := decide_eq_decide.mpr ⟨Af.look.inj, fun z => by rw [z]⟩
      have e2 : eqV (.int i) (.int j) = decide (i = j) := by
        show (i == j) = _
        by_cases h : i = j
        · subst h; simp
        · rw [decide_eq_false h]; simpa using h
      rw [e]
      refine .inr (.inr ⟨a, c, _, _, rfl, rfl, SqT.of ha, SqT.of hc, .yes (.inl ⟨rfl, rfl, rfl⟩) ?_, fun z => ?_⟩)
      · cases hb : decide (i = j) with
        | false => exact .no (.inl ⟨rfl, rfl, by rw [e2, hb]⟩)
        | true => exact .yes (.inl ⟨rfl, rfl, by rw [e2, hb]⟩) .nil
      · subst z
        rw [ha] at hc
        have hxy := HO.tup.inj (Option.some.inj hc)
        simp only [List.cons.injEq, true_and, and_true, V.int.injEq] at hxy
        exact decide_eq_true hxy
theorem trV_inj {a b : Option Int} (h : trV a = trV b) : a = b := by
  cases a <;> cases b <;> simp [trV] at h ⊢
  exact h
theorem AfV.inj {C : Addr} {H : Hp} {v : V} {a1 a2 : Af} (h1 : AfV C H v a1) (h2 : AfV C H v a2) : a1 = a2 := by
  cases a1 with
  | ever =>
    obtain rfl : v = .str "ever" := h1
    cases a2 with
    | ever => rfl
    | doubt q => obtain ⟨a, x, e, _⟩ := h2; cases e
    | look i => obtain ⟨a, e, _⟩ := h2; cases e
  | doubt q =>
    obtain ⟨a, x, rfl, ha, hx⟩ := h1
    cases a2 with
    | ever => cases (show V.ref a = .str "ever" from h2)
    | doubt r =>
      obtain ⟨c, y, e, hc, hy⟩ := h2
      cases e
      rw [ha] at hc
      have hxy := HO.tup.inj (Option.some.inj hc)
      simp only [List.cons.injEq, true_and, and_true] at hxy
      subst hxy
      rw [hx.inj hy]
    | look i => obtain ⟨c, e, hc⟩ := h2; cases e; rw [ha] at hc; cases hc
  | look i =>
    obtain ⟨a, rfl, ha⟩ := h1
    cases a2 with
    | ever => cases (show V.ref a = .str "ever" from h2)
    | doubt r => obtain ⟨c, y, e, hc, hy⟩ := h2; cases e; rw [ha] at hc; cases hc
    | look j =>
      obtain ⟨c, e, hc⟩ := h2
      cases e
      rw [ha] at hc
      have hxy := HO.tup.inj (Option.some.inj hc)
      simp only [List.cons.injEq, true_and, and_true, V.int.injEq] at hxy
      rw [hxy]
theorem Sts.inj {C d : Addr} {H : Hp} {b c : Bk} (h1 : Sts C H d b) (h2 : Sts C H d c) : b = c := by
  obtain ⟨vo, vf, va, h1, s1, s2, s3⟩ := h1
  obtain ⟨wo, wf, wa, h2, t1, t2, t3⟩ := h2
  rw [h1] at h2
  have h := HO.dK.inj (Option.some.inj h2)
  unfold stL at h
  simp only [List.cons.injEq, Prod.mk.injEq, true_and, and_true, V.bl.injEq] at h
  obtain ⟨e1, rfl, rfl, e4, e5, rfl, e7⟩ := h
  obtain ⟨b1, b2, b3, b4, b5, b6, b7⟩ := b
  obtain ⟨c1, c2, c3, c4, c5, c6, c7⟩ := c
  have e1 := trV_inj e1
  have e2 := s1.inj t1
  have e3 := s2.inj t2
  have e6 := s3.inj t3
  simp only at e1 e2 e3 e4 e5 e6 e7
  subst e1 e2 e3 e4 e5 e6 e7
  rfl
theorem sts_eq {K : Frag} {C d e : Addr} {H : Hp} {b c : Bk} (h1 : Sts C H d b) (h2 : Sts C H e c) (o1 : BkOk b) (o2 : BkOk c) : (DDct (dB K C) (.ref d) (.ref e) (decide (b = c)) H) ∨ DDctS (.ref d) (.ref e) (decide (b = c)) H := by
  by_cases hde : d = e
  · subst hde
    have := h1.inj h2
    obtain ⟨_, _, _, hd, _⟩ := h1
    exact .inr ⟨d, _, rfl, rfl, hd, decide_eq_true this⟩
  · obtain ⟨vo, vf, va, hd, s1, s2, s3⟩ := h1
    obtain ⟨wo, wf, wa, he, t1, t2, t3⟩ := h2
    refine .inl ⟨d, e, _, _, rfl, rfl, hde, hd, he, .inr ⟨rfl, ?_⟩⟩
    have z1 := (own_sh s1 t1 (o1.tz.up (by decide)) (o2.tz.up (by decide)))
    have z2 := (own_sh s2 t2 (o1.fz.up (by decide)) (o2.fz.up (by decide)))
    have main := EqD.step (D := dB K C) (H := H) (st_tries (trV c.tries) wo wf (.bl c.equal) (.bl c.sliding) wa (.bl c.keep)) (.inl (.inl ⟨flat_tr b.tries, flat_tr c.tries, rfl⟩))
      (EqD.step (st_told ..) (.inl (.inr z1)) (EqD.step (st_factor ..) (.inl (.inr z2)) (EqD.step (v := .bl b.equal) (st_equal ..) (.inl (.inl ⟨rfl, rfl, rfl⟩)) (EqD.step (v := .bl b.sliding) (st_sliding ..) (.inl (.inl ⟨rfl, rfl, rfl⟩))
        (EqD.step (st_after ..) (af_eq s3 t3 o1.af o2.af) (EqD.step (v := .bl b.keep) (st_keep ..) (.inl (.inl ⟨rfl, rfl, rfl⟩)) .nil))))))
    have eb : decide (b = c) = (eqV (trV b.tries) (trV c.tries) && (decide (gMin b.told c.told = 0) && (decide (gMin b.factor c.factor = 0) && (eqV (.bl b.equal) (.bl c.equal) && (eqV (.bl b.sliding) (.bl c.sliding) && (decide (b.after = c.after) && (eqV (.bl b.keep) (.bl c.keep) && true))))))) := by
      rw [eqV_tr, eqV_bl, eqV_bl, eqV_bl]
      have g1 := gMin_eq o1.tl o2.tl
      have g2 := gMin_eq o1.fl o2.fl
      obtain ⟨b1, b2, b3, b4, b5, b6, b7⟩ := b
      obtain ⟨c1, c2, c3, c4, c5, c6, c7⟩ := c
      simp only at g1 g2
      refine Bool.eq_iff_iff.mpr ?_
      simp only [decide_eq_true_eq, Bool.and_eq_true, Bk.mk.injEq, g1, g2, and_true]
    rw [eb]
    exact main
section
variable {Z : Cz} {f C CB : Addr} {fd : FuncData}
/-- what is asked of the class of books by isinstance -/
structure BkI (Z : Cz) (CB : Addr) : Prop where
  ha : findIn Z.K (.ref CB) "__class__" = some (some (.builtin "object.__class__"))
  hn : specialIn Z.K (.builtin "object.__class__") "__get__" = some (some (.builtin "getset_descriptor.__get__"))
  htk : takesIn Z.K (.builtin "object.__class__") = some true
  hm : mroIn Z.K CB (.type "object") = some true
  kCC : kitOne Z.K (.ref CB) (.ref CB) = some true
  kIC : kitOne Z.K (.type "int") (.ref CB) = some false
  isi : Z.mg "isinstance" = none
def spBkEq (K : Frag) (C CB : Addr) : Sp := fun vs H Q _ => ∃ x y b, vs = [x, y] ∧ BkAt C CB H x b ∧ ((∃ c, BkAt C CB H y c ∧ ∀ H', Same H H' → Q (.bl (decide (b = c))) H') ∨ (∃ t, TyX K H y t ∧ kitOne K t (.ref CB) = some false ∧ Q (.bl false) H))
theorem ok_BkEq (F : Fun Z.K "__eq__" "Book.__eq__" s_Book_dd_eq f fd) (K : BkC Z CB) (J : BkI Z CB) (M : ShM Z C) : Z.ok CX0 9 f fd ["self", "other"] (spBkEq Z.K C CB) := by
  refine F.ok sc_Book_dd_eq (fun vs H Q E h => ?_) (fun cdv A outer s H vs Q E hr h => ?_)
  · obtain ⟨x, y, b, rfl, _⟩ := h
    rfl
  · obtain ⟨x, y, b, rfl, hx, h⟩ := h
    refine ⟨_, (pss_one (ps_ret (pe_and (pe_callB call_isi (by rfl) J.isi (by decide +kernel) (pa_cons (pv 1) (pa_cons (pe_glob (v := .ref CB) rfl K.mg rfl) pa_nil))) (pe_one (pe_cmpR (op_eqB (RcB.or (rcB_dct (n := 7) mon_dB (eqB_dB M ⟨rfl, rfl, rfl, rfl, rfl⟩)) (rcB_dctS.mono (by decide))) hr) (pe_fld (pv 0) rfl) (pe_fld (pv 1) rfl) (nomark _)))))), ?_⟩
    rcases h with ⟨c, hy, k⟩ | ⟨t, ty, hk, k⟩
    · obtain ⟨a, dx, d, rfl, ha, hs, ho⟩ := hx
      obtain ⟨a2, dx2, d2, rfl, ha2, hs2, ho2⟩ := hy
      refine ⟨_, rfl, _, _, _, _, true, rfl, .own CB, .base (.ins ha2 K.cl J.ha J.hn J.htk J.hm), J.kCC, _, rfl, iteT ?_⟩
      refine ⟨_, rfl, a, CB, dx, _, _, rfl, ha, K.cl, K.nS, rfl, _, rfl, a2, CB, dx2, _, _, rfl, ha2, K.cl, K.nS, rfl, ?_⟩
      exact ⟨_, sts_eq hs hs2 ho ho2, k⟩
    · exact ⟨_, rfl, _, _, _, _, false, rfl, .own CB, ty, hk, _, rfl, iteF k⟩
/-! properties -/
def spProp (C CB : Addr) (g : Bk → V → Hp → Prop) : Sp := fun vs H Q _ => ∃ x b, vs = [x] ∧ BkAt C CB H x b ∧ ∀ v, g b v H → Q v H
theorem ok_p_tries (F : Fun Z.K "tries" "Book.tries" s_Book_tries f fd) (K : BkC Z CB) : Z.ok CX0 1 f fd ["self"] (spProp C CB (fun b v H => v = trV b.tries)) := by
  refine F.ok sc_Book_tries (fun vs H Q E h => ?_) (fun cdv A outer s H vs Q E hr h => ?_)
  · obtain ⟨x, b, rfl, _⟩ := h
    rfl
  · obtain ⟨x, b, rfl, hx, k⟩ := h
    obtain ⟨a, dx, d, rfl, ha, ⟨vo, vf, va, hd, h1, h2, h3⟩, ho⟩ := hx
    refine ⟨_, (pss_one (ps_ret (pe_dget (hu_of hr) (pe_fld (pv 0) rfl) pe_str (fun _ _ => rfl)))), ?_⟩
    exact ⟨_, rfl, a, CB, dx, _, _, rfl, ha, K.cl, K.nS, rfl, d, _, rfl, DGet.k (k := .inr "tries") hd, k _ rfl⟩
theorem ok_p_told (F : Fun Z.K "told" "Book.told" s_Book_told f fd) (K : BkC Z CB) : Z.ok CX0 1 f fd ["self"] (spProp C CB (fun b v H => Sh C H v b.told)) := by
  refine F.ok sc_Book_told (fun vs H Q E h => ?_) (fun cdv A outer s H vs Q E hr h => ?_)
  · obtain ⟨x, b, rfl, _⟩ := h
    rfl
  · obtain ⟨x, b, rfl, hx, k⟩ := h
    obtain ⟨a, dx, d, rfl, ha, ⟨vo, vf, va, hd, h1, h2, h3⟩, ho⟩ := hx
    refine ⟨_, (pss_one (ps_ret (pe_dget (hu_of hr) (pe_fld (pv 0) rfl) pe_str (fun _ _ => rfl)))), ?_⟩
    exact ⟨_, rfl, a, CB, dx, _, _, rfl, ha, K.cl, K.nS, rfl, d, _, rfl, DGet.k (k := .inr "told") hd, k _ h1⟩
theorem ok_p_factor (F : Fun Z.K "factor" "Book.factor" s_Book_factor f fd) (K : BkC Z CB) : Z.ok CX0 1 f fd ["self"] (spProp C CB (fun b v H => Sh C H v b.factor)) := by
  refine F.ok sc_Book_factor (fun vs H Q E h => ?_) (fun cdv A outer s H vs Q E hr h => ?_)
  · obtain ⟨x, b, rfl, _⟩ := h
    rfl
  · obtain ⟨x, b, rfl, hx, k⟩ := h
    obtain ⟨a, dx, d, rfl, ha, ⟨vo, vf, va, hd, h1, h2, h3⟩, ho⟩ := hx
    refine ⟨_, (pss_one (ps_ret (pe_dget (hu_of hr) (pe_fld (pv 0) rfl) pe_str (fun _ _ => rfl)))), ?_⟩
    exact ⟨_, rfl, a, CB, dx, _, _, rfl, ha, K.cl, K.nS, rfl, d, _, rfl, DGet.k (k := .inr "factor") hd, k _ h2⟩
theorem ok_p_equal (F : Fun Z.K "equal" "Book.equal" s_Book_equal f fd) (K : BkC Z CB) : Z.ok CX0 1 f fd ["self"] (spProp C CB (fun b v H => v = .bl b.equal)) := by
  refine F.ok sc_Book_equal (fun vs H Q E h => ?_) (fun cdv A outer s H vs Q E hr h => ?_)
  · obtain ⟨x, b, rfl, _⟩ := h
    rfl
  · obtain ⟨x, b, rfl, hx, k⟩ := h
    obtain ⟨a, dx, d, rfl, ha, ⟨vo, vf, va, hd, h1, h2, h3⟩, ho⟩ := hx
    refine ⟨_, (pss_one (ps_ret (pe_dget (hu_of hr) (pe_fld (pv 0) rfl) pe_str (fun _ _ => rfl)))), ?_⟩
    exact ⟨_, rfl, a, CB, dx, _, _, rfl, ha, K.cl, K.nS, rfl, d, _, rfl, DGet.k (k := .inr "equal") hd, k _ rfl⟩
theorem ok_p_sliding (F : Fun Z.K "sliding" "Book.sliding" s_Book_sliding f fd) (K : BkC Z CB) : Z.ok CX0 1 f fd ["self"] (spProp C CB (fun b v H => v = .bl b.sliding)) := by
  refine F.ok sc_Book_sliding (fun vs H Q E h => ?_) (fun cdv A outer s H vs Q E hr h => ?_)
  · obtain ⟨x, b, rfl, _⟩ := h
    rfl
  · obtain ⟨x, b, rfl, hx, k⟩ := h
    obtain ⟨a, dx, d, rfl, ha, ⟨vo, vf, va, hd, h1, h2, h3⟩, ho⟩ := hx
    refine ⟨_, (pss_one (ps_ret (pe_dget (hu_of hr) (pe_fld (pv 0) rfl) pe_str (fun _ _ => rfl)))), ?_⟩
    exact ⟨_, rfl, a, CB, dx, _, _, rfl, ha, K.cl, K.nS, rfl, d, _, rfl, DGet.k (k := .inr "sliding") hd, k _ rfl⟩
theorem ok_p_after (F : Fun Z.K "after" "Book.after" s_Book_after f fd) (K : BkC Z CB) : Z.ok CX0 1 f fd ["self"] (spProp C CB (fun b v H => AfV C H v b.after)) := by
  refine F.ok sc_Book_after (fun vs H Q E h => ?_) (fun cdv A outer s H vs Q E hr h => ?_)
  · obtain ⟨x, b, rfl, _⟩ := h
    rfl
  · obtain ⟨x, b, rfl, hx, k⟩ := h
    obtain ⟨a, dx, d, rfl, ha, ⟨vo, vf, va, hd, h1, h2, h3⟩, ho⟩ := hx
    refine ⟨_, (pss_one (ps_ret (pe_dget (hu_of hr) (pe_fld (pv 0) rfl) pe_str (fun _ _ => rfl)))), ?_⟩
    exact ⟨_, rfl, a, CB, dx, _, _, rfl, ha, K.cl, K.nS, rfl, d, _, rfl, DGet.k (k := .inr "after") hd, k _ h3⟩
theorem ok_p_keep (F : Fun Z.K "keep" "Book.keep" s_Book_keep f fd) (K : BkC Z CB) : Z.ok CX0 1 f fd ["self"] (spProp C CB (fun b v H => v = .bl b.keep)) := by
  refine F.ok sc_Book_keep (fun vs H Q E h => ?_) (fun cdv A outer s H vs Q E hr h => ?_)
  · obtain ⟨x, b, rfl, _⟩ := h
    rfl
  · obtain ⟨x, b, rfl, hx, k⟩ := h
    obtain ⟨a, dx, d, rfl, ha, ⟨vo, vf, va, hd, h1, h2, h3⟩, ho⟩ := hx
    refine ⟨_, (pss_one (ps_ret (pe_dget (hu_of hr) (pe_fld (pv 0) rfl) pe_str (fun _ _ => rfl)))), ?_⟩
    exact ⟨_, rfl, a, CB, dx, _, _, rfl, ha, K.cl, K.nS, rfl, d, _, rfl, DGet.k (k := .inr "keep") hd, k _ rfl⟩
end
end Ps

/-! Books: made by calls, changed. -/
namespace Ps
open PySem PySem.Spec PyProof.Rows PySem.W L2

def bkPs : List Str := ["self", "tries", "told", "factor", "equal", "sliding", "after", "keep"]
def bkKs : List Str := ["factor", "equal", "sliding", "after", "keep"]
/-- a class made by positional values and keywords -/
def CalCK (Z : Cz) (CX : CXT) (k : Nat) (C : Addr) (x : Str) (ps : List Str) (n : Nat) (ks : List Str) (sp : Sp) : Prop := ∃ f fd g, Z.ok CX k f fd ps sp ∧ Mk Z.K C f ∧ Z.mg x = some (.ref C) ∧ KBn Z.K fd ps (n + 1) ks g (fun vs zs => vs ++ zs)
section
variable {Z : Cz} {X : Cx} {CX : CXT} {k n : Nat} {C : Addr} {ps ks : List Str} {sp : Sp} {E : XK} {x : Str} {p pos : Pos} {e : Expr} {es : List Expr} {kws : List Keyword} {t tk : TA}
theorem pe_calCK (c : CalCK Z CX k C x ps n ks sp) (hr : Room (k + 1) X.A) (hg : Gl X x) (hx : Passes CX X E) (ha : PA X (e :: es) t) (hkw : PK X kws tk) (z : InZ Z X := by exact ⟨rfl, rfl, rfl, rfl, rfl⟩)
    (hall : (backToKw pos (keywordEach kws X.env)).all (·.1.isSome) = true := by rfl) (hks : (backToKw pos (keywordEach kws X.env)).filterMap (·.1) = ks := by rfl) (hdb : (x == ("__debug__" : Str)) = false := by decide)
    (he : starEach (e :: es) X.env = (false, eval e X.env) :: starEach es X.env := by rfl) (hpl : ((backTo pos (starEach (e :: es) X.env)).any (·.1) || (backToKw pos (keywordEach kws X.env)).any (·.1.isNone)) = false := by rfl) :
    PE X (.Call (.Name x p) (e :: es) kws pos) (tMakeK C n ks.length sp (fun vs zs => vs ++ zs) E t tk) := by
  obtain ⟨f, fd, g, G, M, h2, hb⟩ := c
  have F := z.ok G
  rw [← z.K] at M hb
  exact pe_makeK M F hr hg (by rw [z.mg]; exact h2) hb hx ha hkw hall hks hdb he hpl
end
/-- a new book -/
theorem mk_book {C CB x dx : Addr} {H : Hp} {Q2 : VK} {E : XK} {vo vf va : V} {b : Bk} (hx : H x = none) (hdx : H dx = none) (hne : dx ≠ x) (ha : BkArg C H vo vf va b) (k : ∀ H', Same H H' → BkAt C CB H' (.ref x) b → Q2 .non H') :
    spBook C CB [.ref x, trV b.tries, vo, vf, .bl b.equal, .bl b.sliding, va, .bl b.keep] (upd (upd H dx (.own x)) x (.ins CB dx [])) Q2 E := by
  have e0 : Same H (upd (upd H dx (.own x)) x (.ins CB dx [])) := fun c o h => by rw [upd_ne (ne_of_none h hx), upd_ne (ne_of_none h hdx)]; exact h
  refine ⟨x, dx, vo, vf, va, b, rfl, upd_same, ha.mono e0, fun d H' hk h1 h2 => k H' (fun c o h => hk c (ne_of_none h hx) o (e0 c o h)) ⟨x, dx, d, rfl, h1, h2, ha.ok⟩⟩
abbrev CBook (Z : Cz) (C CB : Addr) : Prop := CalC Z CX0 10 CB "Book" bkPs [.int 1, .bl false, .bl false, .str "ever", .bl true] (spBook C CB)
abbrev CBookK (Z : Cz) (C CB : Addr) : Prop := CalCK Z CX0 10 CB "Book" bkPs 2 bkKs (spBook C CB)
def bkOf (t : Option Int) (q : Int × Int) : Bk := ⟨t, q, (1, 1), false, false, .ever, true⟩
theorem sz_one : Sz 100 (1, 1) := ⟨by decide, by decide, by decide⟩
theorem bkOf_arg {C : Addr} {H : Hp} {t : Option Int} {v : V} {q : Int × Int} (ht : ∀ i, t = some i → 0 ≤ i ∧ i ≤ 6) (hv : Nb C H v q) (hl : Lw q) (hz : Sz 100 q) (hp : 0 < q.1) : BkArg C H v (.int 1) (.str "ever") (bkOf t q) :=
  ⟨⟨ht, hl, hz, hp, Lw.int 1, sz_one, by show (0 : Int) ≤ 1; decide, trivial⟩, hv, .inr ⟨1, rfl, rfl⟩, rfl⟩
def spOwn (C CB : Addr) (t : Option Int) : Sp := fun vs H Q _ => vs = [] ∧ ∀ v H', Same H H' → BkAt C CB H' v (bkOf t (1, 1)) → Q v H'
def spFive (C CB : Addr) : Sp := fun vs H Q _ => ∃ v q, vs = [v] ∧ Nb C H v q ∧ Lw q ∧ Sz 100 q ∧ 0 < q.1 ∧ ∀ v' H', Same H H' → BkAt C CB H' v' (bkOf (some 5) q) → Q v' H'
/-- behind a lock -/
theorem lock_same {H H' : Hp} {d : Addr} {u : HO} {od : Obj} (hd : H d = some u) (e : Same (upd H d (.frz od u)) H') : Same H (upd H' d u) := fun c o hc => by
  by_cases hcd : c = d
  · subst hcd
    rw [upd_same, ← hd]
    exact hc
  · rw [upd_ne hcd]
    exact e _ _ (by rw [upd_ne hcd]; exact hc)
/-- the book b with the settings kvs put otherwise: c -/
def spChg (C CB : Addr) : Sp := fun vs H Q _ => ∃ (a dx ds d : Addr) (kvs : List (Key × V)) (b c : Bk) (vo vf va wo wf wa : V), vs = [.ref a, .ref d] ∧ H a = some (.ins CB dx [("settings", .ref ds)]) ∧ H ds = some (.dK (stL (trV b.tries) vo vf (.bl b.equal) (.bl b.sliding) va (.bl b.keep))) ∧
  H d = some (.dK kvs) ∧ kvs.length ≤ 10 ∧ (∀ kv ∈ kvs, ∃ x ∈ stF, kv.1 = Sum.inr x) ∧
  mergeK (stL (trV b.tries) vo vf (.bl b.equal) (.bl b.sliding) va (.bl b.keep)) kvs = stL (trV c.tries) wo wf (.bl c.equal) (.bl c.sliding) wa (.bl c.keep) ∧ BkArg C H wo wf wa c ∧ ∀ v H', Same H H' → BkAt C CB H' v c → Q v H'
theorem in_stF {x : Str} (h : x ∈ stF) : inV (.str x) (stF.map V.str) = true := by
  simp only [stF, List.mem_cons, List.not_mem_nil, or_false] at h
  rcases h with rfl | rfl | rfl | rfl | rfl | rfl | rfl <;> decide +kernel
section
variable {Z : Cz} {f C CB : Addr} {fd : FuncData}
end
end Ps

/-! Books behind the top. -/
namespace Ps
open PySem PySem.Spec PyProof.Rows PySem.W L2 He

theorem relsB_ok : ∀ {vs : List V} {us : List Value}, relsB vs us = true → Vals vs us
  | [], [], _ => .nil
  | [], _ :: _, h => by cases h
  | _ :: _, [], h => by cases h
  | v :: vs, u :: us, h => by
    obtain ⟨h1, h2⟩ := ba (show (relVB v u && relsB vs us) = true from h)
    exact .cons (relVB_ok h1) (relsB_ok h2)
theorem tupB_ok {K : Frag} {h : Heap} {mg : Str → Option Value} {x : Str} {xs : List V} (X : K.In h) (G : h.Ns mainGlobals mg) (c : tupB K x xs = true) : ∃ a, mg x = some (.ref a) ∧ ∀ H, SqT K H a xs := by
  unfold tupB at c
  split at c
  · rename_i a e
    split at c
    · rename_i dd its n sl lk
      obtain ⟨c1, c2⟩ := ba c
      exact ⟨a, mg_of X G e, fun H => .inr ⟨_, its, n, lk, rfl, rfl, of_decide_eq_true c1, relsB_ok c2⟩⟩
    · cases c
  · cases c
section
variable {K : Frag} {h : Heap} {mg : Str → Option Value}
theorem bkB_ok {P : Program} {w : World} {base : Heap} (X : K.In h) (G : h.Ns mainGlobals mg) (c : bkB K = true) : BkT ⟨P, w, K, mg, base⟩ ∧ BkC ⟨P, w, K, mg, base⟩ (ga K "Book") ∧ BkI ⟨P, w, K, mg, base⟩ (ga K "Book") ∧ Mk K (ga K "Book") (ma K (ga K "Book") "__init__") ∧ kwdB K (ma K (ga K "Book") "__init__") bkKws = true := by
  obtain ⟨c1, c⟩ := ba c
  obtain ⟨c2, c⟩ := ba c
  obtain ⟨c3, c⟩ := ba c
  obtain ⟨c4, c⟩ := ba c
  obtain ⟨c5, c⟩ := ba c
  obtain ⟨c6, c⟩ := ba c
  obtain ⟨c7, c⟩ := ba c
  obtain ⟨c8, c⟩ := ba c
  obtain ⟨c9, c⟩ := ba c
  obtain ⟨c10, c⟩ := ba c
  obtain ⟨c11, c⟩ := ba c
  obtain ⟨c12, c13⟩ := ba c
  obtain ⟨d1, d⟩ := ba c5
  obtain ⟨d2, d⟩ := ba d
  obtain ⟨d3, d4⟩ := ba d
  have f := fun {x : Str} (hx : x ∈ (["str", "tuple", "len", "all", "isinstance"] : List Str)) => freeB_ok X G c8 hx
  exact ⟨⟨f (by simp), f (by simp), f (by simp), f (by simp), txtB_ok X G c9, intB_ok X G c10, intB_ok X G c11, tupB_ok X G c12⟩, ⟨cls_ok c1, noat_ok c3, glo_ok X G c4⟩, ⟨eqO_ok d1, eqO_ok d2, of_decide_eq_true d3, of_decide_eq_true d4, of_decide_eq_true c6, of_decide_eq_true c7, f (by simp)⟩, mkr_ok c2, c13⟩
end
section
variable {Z : Cz} {C CB f : Addr} {fd : FuncData}
theorem book_cals (F : FunD Z.K "__init__" "Book.__init__" (defArgs s_Book_dd_init) (defBody s_Book_dd_init) (defScope s_Book_dd_init) [] bkKws f fd) (M : Mk Z.K CB f) (K : BkC Z CB) (G : Z.ok CX0 10 f fd bkPs (spBook C CB)) : CBook Z C CB ∧ CBookK Z C CB := by
  obtain ⟨d1, v1, b1⟩ := FunD.binds0 (ps := bkPs) F 3 (by simp [bkKws]) rfl (fun D doc pm an cdv ct us ks hl hk => match us, hl, ks, hk with
    | [_, _, _], _, [_, _, _, _, _], _ => ⟨_, _, _, _, _, _, rfl, rfl, _, _, _, _, _, _, rfl, rfl, _, _, _, _, _, _, rfl, rfl, _, _, _, _, _, _, rfl, rfl, _, _, _, _, _, _, rfl, rfl, rfl⟩)
  obtain ⟨mv, kb⟩ := FunD.kbinds0 (ps := bkPs) F 3 bkKs [] (fun us mv ws => us ++ ws) (by simp [bkKws]) (fun q hq => by cases hq) (fun r1 _ r3 => r1.append r3) (fun D doc pm an cdv ct us mv ws hl hm hk => match us, hl, mv, hm, ws, hk with
    | [_, _, _], _, [], _, [_, _, _, _, _], _ => rfl)
  exact ⟨⟨f, fd, d1, G, M, K.mg, b1, v1⟩, ⟨f, fd, _, G, M, K.mg, kb⟩⟩
end
end Ps

/-! x in a list, == and != of lists, whose items may be own instances: both answers. -/
namespace Ps
open PySem PySem.Spec PyProof.Rows PySem.SeqAt
open AutoSeq1 (wpAny_loadPart')
open MeetsSeq MeetsSeq2 MeetsSeq3 SeqRoads2
section
variable {prog : Program} {w : World} {A : Around} {R : Result → Shared → Prop}
theorem contains_loopB (l : Addr) (x : Value) (N : Nat) (J : Nat → Shared → Prop)
    (turn : ∀ i s, J i s → ∃ items : Array Value, s.heap.IsList l items ∧ items.size = N ∧ ∀ h : i < items.size, wpAny (model prog w) A.in1 (eqBool items[i] x) (fun r s' => (r = true ∧ R (.ok (.ret (.bool true))) s') ∨ (r = false ∧ J (i + 1) s')) (fun e s' => R (.error e) s') s)
    (fin : ∀ s, J N s → R (.ok (.ret (.bool false))) s) (k : Nat) :
    ∀ i : Nat, N - i = k → i ≤ N → ∀ s, J i s → wpAny (model prog w) A.in1 (Builtin.«list.__contains__.loop» ⟨[.ref l, x, rawInt i], []⟩) (GQ.FinOf prog w A R) (fun e s' => R (.error e) s') s := by
  induction k with
  | zero =>
    intro i hk hi s h
    obtain ⟨items, hl, hs, _⟩ := turn _ _ h
    obtain ⟨⟨cls, dd, data, sl⟩, ho, hc, n, hd⟩ := hl
    simp only at hc hd
    subst hc hd
    have hi' : i = N := by omega
    have hR := fin s (hi' ▸ h)
    obtain ⟨hp, g, d, tk, os⟩ := s
    wp_walk using wpAny_loadPart' ho
    have hi1 : items[((i : Nat) : Int).toNat]? = none := by simp; omega
    rw [hi1]
    wp_walk
    exact hR
  | succ k ih =>
    intro i hk hi s h
    obtain ⟨items, hl, hs, ht⟩ := turn _ _ h
    obtain ⟨⟨cls, dd, data, sl⟩, ho, hc, n, hd⟩ := hl
    simp only at hc hd
    subst hc hd
    have hlt : i < items.size := by omega
    have ht := ht hlt
    obtain ⟨hp, g, d, tk, os⟩ := s
    wp_walk using wpAny_loadPart' ho
    have hi1 : items[((i : Nat) : Int).toNat]? = some items[i] := by simp [hlt]
    have hc : ((i : Int) + 1) = ((i + 1 : Nat) : Int) := by omega
    rw [hi1]
    refine wpAny_bind (wpAny_mono ht (fun r s2 h2 => ?_) fun _ _ x => x)
    rcases h2 with ⟨hr, h2⟩ | ⟨hr, h2⟩
    · subst hr
      obtain ⟨hp2, g2, d2, tk2, os2⟩ := s2
      wp_walk
      exact h2
    · subst hr
      have hrec := ih (i + 1) (by omega) (by omega) s2 h2
      obtain ⟨hp2, g2, d2, tk2, os2⟩ := s2
      wp_walk
      rw [hc]
      exact ⟨plainId_quiet plain_contains_loop _, codeAny_builtin entry_contains_loop (by
        rw [Around.under_plainId plain_contains_loop _]
        exact hrec)⟩
theorem list_containsB (l : Addr) (x : Value) (N : Nat) (J : Nat → Shared → Prop)
    (turn : ∀ i s, J i s → ∃ items : Array Value, s.heap.IsList l items ∧ items.size = N ∧ ∀ h : i < items.size, wpAny (model prog w) A.in1 (eqBool items[i] x) (fun r s' => (r = true ∧ R (.ok (.ret (.bool true))) s') ∨ (r = false ∧ J (i + 1) s')) (fun e s' => R (.error e) s') s)
    (fin : ∀ s, J N s → R (.ok (.ret (.bool false))) s) {s : Shared} (h : J 0 s) :
    wpAny (model prog w) A.in1 (Builtin.«list.__contains__» ⟨[.ref l, x], []⟩) (GQ.FinOf prog w A R) (fun e s' => R (.error e) s') s := by
  have hrec := contains_loopB l x N J turn fin _ 0 rfl (Nat.zero_le _) s h
  obtain ⟨hp, g, d, tk, os⟩ := s
  wp_walk
  exact ⟨plainId_quiet plain_contains_loop _, codeAny_builtin entry_contains_loop (by
    rw [Around.under_plainId plain_contains_loop _]
    exact hrec)⟩
def TwoL (l b : Addr) (N : Nat) (s : Shared) : Prop := ∃ items items2 : Array Value, s.heap.IsList l items ∧ s.heap.IsList b items2 ∧ items.size = N ∧ items2.size = N
theorem eq_loopB (l b : Addr) (N : Nat) (J : Nat → Shared → Prop)
    (turn : ∀ i s, J i s → ∃ items items2 : Array Value, s.heap.IsList l items ∧ s.heap.IsList b items2 ∧ items.size = N ∧ items2.size = N ∧ ∀ (h1 : i < items.size) (h2 : i < items2.size), wpAny (model prog w) A.in1 (eqBool items[i] items2[i])
      (fun r s' => (r = true ∧ J (i + 1) s') ∨ (r = false ∧ TwoL l b N s' ∧ R (.ok (.ret (.bool false))) s')) (fun e s' => R (.error e) s') s)
    (fin : ∀ s, J N s → R (.ok (.ret (.bool true))) s) (k : Nat) :
    ∀ i : Nat, N - i = k → i ≤ N → ∀ s, J i s → wpAny (model prog w) A.in1 (Builtin.«list.__eq__.loop» ⟨[.ref l, .ref b, rawInt i, rawInt 2], []⟩) (GQ.FinOf prog w A R) (fun e s' => R (.error e) s') s := by
  induction k with
  | zero =>
    intro i hk hi s h
    obtain ⟨items, items2, ⟨⟨cls, dd, data, sl⟩, ho, hc, n, hd⟩, ⟨⟨cls2, dd2, data2, sl2⟩, ho2, hc2, n2, hd2⟩, hs, hs2, _⟩ := turn _ _ h
    simp only at hc hd hc2 hd2
    subst hc hd hc2 hd2
    have hi' : i = N := by omega
    have hR := fin s (hi' ▸ h)
    obtain ⟨hp, g, d, tk, os⟩ := s
    wp_walk using wpAny_loadPart' ho, wpAny_loadPart' ho2
    have hi1 : items[((i : Nat) : Int).toNat]? = none := by simp; omega
    have hi2 : items2[((i : Nat) : Int).toNat]? = none := by simp; omega
    rw [hi1, hi2]
    wp_walk using wpAny_loadPart' ho, wpAny_loadPart' ho2
    show R (.ok (.ret (.bool (items.size == items2.size)))) _
    rw [hs, hs2]
    simpa using hR
  | succ k ih =>
    intro i hk hi s h
    obtain ⟨items, items2, ⟨⟨cls, dd, data, sl⟩, ho, hc, n, hd⟩, ⟨⟨cls2, dd2, data2, sl2⟩, ho2, hc2, n2, hd2⟩, hs, hs2, ht⟩ := turn _ _ h
    simp only at hc hd hc2 hd2
    subst hc hd hc2 hd2
    have hlt : i < items.size := by omega
    have hlt2 : i < items2.size := by omega
    have ht := ht hlt hlt2
    obtain ⟨hp, g, d, tk, os⟩ := s
    wp_walk using wpAny_loadPart' ho, wpAny_loadPart' ho2
    have hi1 : items[((i : Nat) : Int).toNat]? = some items[i] := by simp [hlt]
    have hi2 : items2[((i : Nat) : Int).toNat]? = some items2[i] := by simp [hlt2]
    have hc : ((i : Int) + 1) = ((i + 1 : Nat) : Int) := by omega
    rw [hi1, hi2]
    refine wpAny_bind (wpAny_mono ht (fun r s2 h2 => ?_) fun _ _ x => x)
    rcases h2 with ⟨hr, h2⟩ | ⟨hr, ⟨it, it2, ⟨⟨cls, dd, data, sl⟩, ho, hc, n, hd⟩, ⟨⟨cls2, dd2, data2, sl2⟩, ho2, hc2, n2, hd2⟩, hs, hs2⟩, h2⟩
    · subst hr
      have hrec := ih (i + 1) (by omega) (by omega) s2 h2
      obtain ⟨hp2, g2, d2, tk2, os2⟩ := s2
      wp_walk
      rw [hc]
      exact ⟨plainId_quiet plain_eq_loop _, codeAny_builtin entry_eq_loop (by
        rw [Around.under_plainId plain_eq_loop _]
        exact hrec)⟩
    · subst hr
      simp only at hc hd hc2 hd2
      subst hc hd hc2 hd2
      have hlt : i < it.size := by omega
      have hlt2 : i < it2.size := by omega
      have hi1 : it[((i : Nat) : Int).toNat]? = some it[i] := by simp [hlt]
      have hi2 : it2[((i : Nat) : Int).toNat]? = some it2[i] := by simp [hlt2]
      obtain ⟨hp2, g2, d2, tk2, os2⟩ := s2
      wp_walk using wpAny_loadPart' ho, wpAny_loadPart' ho2
      rw [hi1, hi2]
      wp_walk
      exact h2
theorem list_eqB (l b : Addr) (N : Nat) (J : Nat → Shared → Prop)
    (turn : ∀ i s, J i s → ∃ items items2 : Array Value, s.heap.IsList l items ∧ s.heap.IsList b items2 ∧ items.size = N ∧ items2.size = N ∧ ∀ (h1 : i < items.size) (h2 : i < items2.size), wpAny (model prog w) A.in1 (eqBool items[i] items2[i])
      (fun r s' => (r = true ∧ J (i + 1) s') ∨ (r = false ∧ TwoL l b N s' ∧ R (.ok (.ret (.bool false))) s')) (fun e s' => R (.error e) s') s)
    (fin : ∀ s, J N s → R (.ok (.ret (.bool true))) s) {s : Shared} (h : J 0 s) :
    wpAny (model prog w) A.in1 (Builtin.«list.__eq__» ⟨[.ref l, .ref b], []⟩) (GQ.FinOf prog w A R) (fun e s' => R (.error e) s') s := by
  obtain ⟨items, items2, ⟨⟨cls, dd, data, sl⟩, ho, hc, n, hd⟩, ⟨⟨cls2, dd2, data2, sl2⟩, ho2, hc2, n2, hd2⟩, hs1, hs2, _⟩ := turn _ _ h
  simp only at hc hd hc2 hd2
  subst hc hd hc2 hd2
  have hrec := eq_loopB l b N J turn fin _ 0 rfl (Nat.zero_le _) s h
  obtain ⟨hp, g, d, tk, os⟩ := s
  have f3 := AutoSeq1.sub_list_list
  have hne : ¬ (items.size != items2.size) = true := by simp [hs1, hs2]
  wp_walk using wpAny_loadPart' ho, wpAny_loadPart' ho2
  exact ⟨plainId_quiet plain_eq_loop _, codeAny_builtin entry_eq_loop (by
    rw [Around.under_plainId plain_eq_loop _]
    exact hrec)⟩
theorem ne_loopB (l b : Addr) (N : Nat) (J : Nat → Shared → Prop)
    (turn : ∀ i s, J i s → ∃ items items2 : Array Value, s.heap.IsList l items ∧ s.heap.IsList b items2 ∧ items.size = N ∧ items2.size = N ∧ ∀ (h1 : i < items.size) (h2 : i < items2.size), wpAny (model prog w) A.in1 (eqBool items[i] items2[i])
      (fun r s' => (r = true ∧ J (i + 1) s') ∨ (r = false ∧ TwoL l b N s' ∧ R (.ok (.ret (.bool true))) s')) (fun e s' => R (.error e) s') s)
    (fin : ∀ s, J N s → R (.ok (.ret (.bool false))) s) (k : Nat) :
    ∀ i : Nat, N - i = k → i ≤ N → ∀ s, J i s → wpAny (model prog w) A.in1 (Builtin.«list.__eq__.loop» ⟨[.ref l, .ref b, rawInt i, rawInt 3], []⟩) (GQ.FinOf prog w A R) (fun e s' => R (.error e) s') s := by
  induction k with
  | zero =>
    intro i hk hi s h
    obtain ⟨items, items2, ⟨⟨cls, dd, data, sl⟩, ho, hc, n, hd⟩, ⟨⟨cls2, dd2, data2, sl2⟩, ho2, hc2, n2, hd2⟩, hs, hs2, _⟩ := turn _ _ h
    simp only at hc hd hc2 hd2
    subst hc hd hc2 hd2
    have hi' : i = N := by omega
    have hR := fin s (hi' ▸ h)
    obtain ⟨hp, g, d, tk, os⟩ := s
    wp_walk using wpAny_loadPart' ho, wpAny_loadPart' ho2
    have hi1 : items[((i : Nat) : Int).toNat]? = none := by simp; omega
    have hi2 : items2[((i : Nat) : Int).toNat]? = none := by simp; omega
    rw [hi1, hi2]
    wp_walk using wpAny_loadPart' ho, wpAny_loadPart' ho2
    show R (.ok (.ret (.bool (items.size != items2.size)))) _
    rw [hs, hs2]
    simpa using hR
  | succ k ih =>
    intro i hk hi s h
    obtain ⟨items, items2, ⟨⟨cls, dd, data, sl⟩, ho, hc, n, hd⟩, ⟨⟨cls2, dd2, data2, sl2⟩, ho2, hc2, n2, hd2⟩, hs, hs2, ht⟩ := turn _ _ h
    simp only at hc hd hc2 hd2
    subst hc hd hc2 hd2
    have hlt : i < items.size := by omega
    have hlt2 : i < items2.size := by omega
    have ht := ht hlt hlt2
    obtain ⟨hp, g, d, tk, os⟩ := s
    wp_walk using wpAny_loadPart' ho, wpAny_loadPart' ho2
    have hi1 : items[((i : Nat) : Int).toNat]? = some items[i] := by simp [hlt]
    have hi2 : items2[((i : Nat) : Int).toNat]? = some items2[i] := by simp [hlt2]
    have hc : ((i : Int) + 1) = ((i + 1 : Nat) : Int) := by omega
    rw [hi1, hi2]
    refine wpAny_bind (wpAny_mono ht (fun r s2 h2 => ?_) fun _ _ x => x)
    rcases h2 with ⟨hr, h2⟩ | ⟨hr, ⟨it, it2, ⟨⟨cls, dd, data, sl⟩, ho, hc, n, hd⟩, ⟨⟨cls2, dd2, data2, sl2⟩, ho2, hc2, n2, hd2⟩, hs, hs2⟩, h2⟩
    · subst hr
      have hrec := ih (i + 1) (by omega) (by omega) s2 h2
      obtain ⟨hp2, g2, d2, tk2, os2⟩ := s2
      wp_walk
      rw [hc]
      exact ⟨plainId_quiet plain_eq_loop _, codeAny_builtin entry_eq_loop (by
        rw [Around.under_plainId plain_eq_loop _]
        exact hrec)⟩
    · subst hr
      simp only at hc hd hc2 hd2
      subst hc hd hc2 hd2
      have hlt : i < it.size := by omega
      have hlt2 : i < it2.size := by omega
      have hi1 : it[((i : Nat) : Int).toNat]? = some it[i] := by simp [hlt]
      have hi2 : it2[((i : Nat) : Int).toNat]? = some it2[i] := by simp [hlt2]
      obtain ⟨hp2, g2, d2, tk2, os2⟩ := s2
      wp_walk using wpAny_loadPart' ho, wpAny_loadPart' ho2
      rw [hi1, hi2]
      wp_walk
      exact h2
theorem list_neB (l b : Addr) (N : Nat) (J : Nat → Shared → Prop)
    (turn : ∀ i s, J i s → ∃ items items2 : Array Value, s.heap.IsList l items ∧ s.heap.IsList b items2 ∧ items.size = N ∧ items2.size = N ∧ ∀ (h1 : i < items.size) (h2 : i < items2.size), wpAny (model prog w) A.in1 (eqBool items[i] items2[i])
      (fun r s' => (r = true ∧ J (i + 1) s') ∨ (r = false ∧ TwoL l b N s' ∧ R (.ok (.ret (.bool true))) s')) (fun e s' => R (.error e) s') s)
    (fin : ∀ s, J N s → R (.ok (.ret (.bool false))) s) {s : Shared} (h : J 0 s) :
    wpAny (model prog w) A.in1 (Builtin.«list.__ne__» ⟨[.ref l, .ref b], []⟩) (GQ.FinOf prog w A R) (fun e s' => R (.error e) s') s := by
  obtain ⟨items, items2, ⟨⟨cls, dd, data, sl⟩, ho, hc, n, hd⟩, ⟨⟨cls2, dd2, data2, sl2⟩, ho2, hc2, n2, hd2⟩, hs1, hs2, _⟩ := turn _ _ h
  simp only at hc hd hc2 hd2
  subst hc hd hc2 hd2
  have hrec := ne_loopB l b N J turn fin _ 0 rfl (Nat.zero_le _) s h
  obtain ⟨hp, g, d, tk, os⟩ := s
  have f3 := AutoSeq1.sub_list_list
  have hne : ¬ (items.size != items2.size) = true := by simp [hs1, hs2]
  wp_walk using wpAny_loadPart' ho, wpAny_loadPart' ho2
  exact ⟨plainId_quiet plain_eq_loop _, codeAny_builtin entry_eq_loop (by
    rw [Around.under_plainId plain_eq_loop _]
    exact hrec)⟩
end
section
variable {prog : Program} {w : World} {A : Around} {E : Value → Shared → Prop} {s : Shared}
theorem in_listB {l : Addr} {x : Value} {N : Nat} {J : Nat → Shared → Prop} {Q : Bool → Shared → Prop}
    (turn : ∀ i s, J i s → ∃ items : Array Value, s.heap.IsList l items ∧ items.size = N ∧ ∀ h : i < items.size, wpAny (model prog w) A.in1 (eqBool items[i] x) (fun r s' => (r = true ∧ Q true s') ∨ (r = false ∧ J (i + 1) s')) E s)
    (fin : ∀ s, J N s → Q false s) (h : J 0 s) : wpAny (model prog w) A (contains (.ref l) x) Q E s := by
  obtain ⟨items, ⟨o, ho, hc, _⟩, _, _⟩ := turn _ _ h
  refine wpAny_contains_slot ⟨o, ho, hc⟩ F.slot_list_contains (wpAny_mono (GQ.call_here (Q := fun v s' => ∃ b, v = .bool b ∧ Q b s') F.slot_list_contains ⟨o, ho, hc⟩ F.entry_list_contains (F.args_list_contains_2 _ _) ?_) (fun v s' hv => ?_) fun _ _ e => e)
  · exact list_containsB (R := wants (fun v s' => ∃ b, v = .bool b ∧ Q b s') E) l x N J (fun i s q => by
      obtain ⟨its, h1, h2, h3⟩ := turn i s q
      exact ⟨its, h1, h2, fun h => wpAny_mono (h3 h) (fun r s' z => z.elim (fun z => .inl ⟨z.1, true, rfl, z.2⟩) .inr) fun _ _ x => x⟩) (fun s q => ⟨false, rfl, fin s q⟩) h
  · obtain ⟨b, rfl, hq⟩ := hv
    exact wpAny_truthy_bool hq
theorem rc_lstB {l b : Addr} {N : Nat} {J : Nat → Shared → Prop} {Q : Value → Shared → Prop} (hu : A.units < cLine)
    (turn : ∀ i s, J i s → ∃ items items2 : Array Value, s.heap.IsList l items ∧ s.heap.IsList b items2 ∧ items.size = N ∧ items2.size = N ∧ ∀ (h1 : i < items.size) (h2 : i < items2.size), wpAny (model prog w) A.in1 (eqBool items[i] items2[i])
      (fun r s' => (r = true ∧ J (i + 1) s') ∨ (r = false ∧ TwoL l b N s' ∧ Q (.bool false) s')) E s)
    (fin : ∀ s, J N s → Q (.bool true) s) (h : J 0 s) : wpAny (model prog w) A (richCompare .Eq (.ref l) (.ref b)) Q E s := by
  obtain ⟨items, items2, ⟨o, ho, hc, _⟩, ⟨o2, ho2, hc2, _⟩, _⟩ := turn _ _ h
  refine wpAny_richCompare_same_room (op := .Eq) ⟨o, ho, hc⟩ ⟨o2, ho2, hc2⟩ F.slot_list_eq (GQ.call_here F.slot_list_eq ⟨o, ho, hc⟩ F.entry_list_eq (F.args_list_eq_2 _ _) ?_) hu
  exact list_eqB (R := wants (fun v s' => v ≠ .notImplemented ∧ Q v s') E) l b N J (fun i s q => by
    obtain ⟨its, its2, h1, h2, h3, h4, h5⟩ := turn i s q
    exact ⟨its, its2, h1, h2, h3, h4, fun k1 k2 => wpAny_mono (h5 k1 k2) (fun r s' z => z.elim .inl fun z => .inr ⟨z.1, z.2.1, (fun x => nomatch x), z.2.2⟩) fun _ _ x => x⟩) (fun s' q => ⟨(fun x => nomatch x), fin s' q⟩) h
theorem rc_lstN {l b : Addr} {N : Nat} {J : Nat → Shared → Prop} {Q : Value → Shared → Prop} (hu : A.units < cLine)
    (turn : ∀ i s, J i s → ∃ items items2 : Array Value, s.heap.IsList l items ∧ s.heap.IsList b items2 ∧ items.size = N ∧ items2.size = N ∧ ∀ (h1 : i < items.size) (h2 : i < items2.size), wpAny (model prog w) A.in1 (eqBool items[i] items2[i])
      (fun r s' => (r = true ∧ J (i + 1) s') ∨ (r = false ∧ TwoL l b N s' ∧ Q (.bool true) s')) E s)
    (fin : ∀ s, J N s → Q (.bool false) s) (h : J 0 s) : wpAny (model prog w) A (richCompare .NotEq (.ref l) (.ref b)) Q E s := by
  obtain ⟨items, items2, ⟨o, ho, hc, _⟩, ⟨o2, ho2, hc2, _⟩, _⟩ := turn _ _ h
  refine wpAny_richCompare_same_room (op := .NotEq) ⟨o, ho, hc⟩ ⟨o2, ho2, hc2⟩ F.slot_list_ne (GQ.call_here F.slot_list_ne ⟨o, ho, hc⟩ F.entry_list_ne (F.args_list_ne_2 _ _) ?_) hu
  exact list_neB (R := wants (fun v s' => v ≠ .notImplemented ∧ Q v s') E) l b N J (fun i s q => by
    obtain ⟨its, its2, h1, h2, h3, h4, h5⟩ := turn i s q
    exact ⟨its, its2, h1, h2, h3, h4, fun k1 k2 => wpAny_mono (h5 k1 k2) (fun r s' z => z.elim .inl fun z => .inr ⟨z.1, z.2.1, (fun x => nomatch x), z.2.2⟩) fun _ _ x => x⟩) (fun s' q => ⟨(fun x => nomatch x), fin s' q⟩) h
theorem rc_lstLen {l b : Addr} {items items2 : Array Value} {Q : Value → Shared → Prop} (hl : s.heap.IsList l items) (hb : s.heap.IsList b items2) (hsz : (items.size != items2.size) = true) (hu : A.units < cLine)
    (h : Q (.bool true) s) : wpAny (model prog w) A (richCompare .NotEq (.ref l) (.ref b)) Q E s := by
  obtain ⟨⟨cls, dd, data, sl⟩, ho, hc, n, hd⟩ := hl
  obtain ⟨⟨cls2, dd2, data2, sl2⟩, ho2, hc2, n2, hd2⟩ := hb
  simp only at hc hd hc2 hd2
  subst hc hd hc2 hd2
  refine wpAny_richCompare_same_room (op := .NotEq) ⟨_, ho, rfl⟩ ⟨_, ho2, rfl⟩ F.slot_list_ne (GQ.call_here F.slot_list_ne ⟨_, ho, rfl⟩ F.entry_list_ne (F.args_list_ne_2 _ _) ?_) hu
  obtain ⟨hp, g, d, tk, os⟩ := s
  have f3 := AutoSeq1.sub_list_list
  wp_walk using wpAny_loadPart' ho, wpAny_loadPart' ho2
  exact ⟨(fun x => nomatch x), h⟩
end
open PySem.W L2
/-! ### at the hand layer -/
/-- what is said of two values stays when nothing tracked changes -/
def MonS (D : Eqb) : Prop := ∀ x y b H H', Same H H' → D x y b H → D x y b H'
theorem MonB.s {D : Eqb} (h : MonB D) : MonS D := fun x y b H H' e d => h x y b H H' (Nd.of e) d
theorem MonS.or {D D' : Eqb} (h : MonS D) (h' : MonS D') : MonS (fun x y b H => D x y b H ∨ D' x y b H) := fun x y b H H' e d => d.elim (fun d => .inl (h x y b H H' e d)) fun d => .inr (h' x y b H H' e d)
/-- x is among these -/
inductive InB (D : Eqb) (H : Hp) (x : V) : List V → Bool → Prop
  | nil : InB D H x [] false
  | yes {y : V} {r : List V} : D y x true H → InB D H x (y :: r) true
  | no {y : V} {r : List V} {b : Bool} : D y x false H → InB D H x r b → InB D H x (y :: r) b
theorem InB.mon {D : Eqb} (hD : MonS D) {H H' : Hp} (e : Same H H') {x : V} {ys : List V} {b : Bool} (p : InB D H x ys b) : InB D H' x ys b := by
  induction p with
  | nil => exact .nil
  | yes d => exact .yes (hD _ _ _ _ _ e d)
  | no d _ ih => exact .no (hD _ _ _ _ _ e d) ih
theorem InB.of {D : Eqb} {H : Hp} {x : V} {α : Type} [DecidableEq α] {a : α} : ∀ {ys : List V} {bs : List α}, ys.length = bs.length → (∀ (i : Nat) (y : V) (b : α), ys[i]? = some y → bs[i]? = some b → D y x (decide (b = a)) H) → InB D H x ys (decide (a ∈ bs))
  | [], [], _, _ => by
    rw [show decide (a ∈ ([] : List α)) = false by simp]
    exact .nil
  | [], _ :: _, h, _ => by cases h
  | _ :: _, [], h, _ => by cases h
  | y :: ys, b :: bs, h, d => by
    have d0 := d 0 y b rfl rfl
    by_cases hb : b = a
    · rw [decide_eq_true hb] at d0
      rw [show decide (a ∈ b :: bs) = true by simp [hb]]
      exact .yes d0
    · rw [decide_eq_false hb] at d0
      have r := InB.of (a := a) (x := x) (D := D) (H := H) (ys := ys) (bs := bs) (by simpa using h) fun i y b h1 h2 => d (i + 1) y b (by simpa using h1) (by simpa using h2)
      rw [show decide (a ∈ b :: bs) = decide (a ∈ bs) by simp [Ne.symm hb]]
      exact .no d0 r
def LstB (D : Eqb) (H : Hp) (xs ys : List V) (b : Bool) : Prop := (xs.length ≠ ys.length ∧ b = false) ∨ (xs.length = ys.length ∧ PrsB D H xs ys b)
theorem LstB.of {D : Eqb} {H : Hp} {α : Type} [DecidableEq α] : ∀ {xs ys : List V} {as bs : List α}, xs.length = as.length → ys.length = bs.length → (∀ (i : Nat) (x y : V) (a b : α), xs[i]? = some x → ys[i]? = some y → as[i]? = some a → bs[i]? = some b → D x y (decide (a = b)) H) →
    LstB D H xs ys (decide (as = bs)) := fun {xs ys as bs} hx hy d => by
  by_cases hl : xs.length = ys.length
  · refine .inr ⟨hl, ?_⟩
    induction xs generalizing ys as bs with
    | nil =>
      cases ys with
      | cons _ _ => cases hl
      | nil =>
        cases as with
        | cons _ _ => cases hx
        | nil =>
          cases bs with
          | cons _ _ => cases hy
          | nil => exact .nil
    | cons x xs ih =>
      cases ys with
      | nil => cases hl
      | cons y ys =>
        cases as with
        | nil => cases hx
        | cons a as =>
          cases bs with
          | nil => cases hy
          | cons b bs =>
            have d0 := d 0 x y a b rfl rfl rfl rfl
            by_cases hb : a = b
            · rw [decide_eq_true hb] at d0
              have r := ih (ys := ys) (as := as) (bs := bs) (by simpa using hx) (by simpa using hy) (fun i x y a b h1 h2 h3 h4 => d (i + 1) x y a b (by simpa using h1) (by simpa using h2) (by simpa using h3) (by simpa using h4)) (by simpa using hl)
              rw [show decide (a :: as = b :: bs) = decide (as = bs) by simp [hb]]
              exact .yes d0 r
            · rw [decide_eq_false hb] at d0
              rw [show decide (a :: as = b :: bs) = false by simp [hb]]
              exact .no d0
  · refine .inl ⟨hl, ?_⟩
    exact decide_eq_false fun z => hl (by rw [hx, hy, z])
section
variable {X : Cx} {n : Nat} {D : Eqb}
theorem turnIn (hD : MonS D) (h : EqB X n D) {A : Around} (sb : Sub X (n + 1) A) {pins : List (Addr × Obj)} {σ : L2.St} {H : Hp} {a : Addr} {x : V} {ys : List V} {b : Bool} {v : Value} {Q : Bool → Shared → Prop} (hl : SqL X.K H a ys) (rx : RelV x v)
    (k : ∀ s' H', L2.Inv X pins σ H' s' → Same H H' → Q b s') (i : Nat) (s' : Shared) (q : ∃ H', L2.Inv X pins σ H' s' ∧ Same H H' ∧ InB D H x (ys.drop i) b ∧ i ≤ ys.length) :
    ∃ items : Array Value, s'.heap.IsList a items ∧ items.size = ys.length ∧ ∀ h : i < items.size, wpAny (model X.prog X.w) A.in1 (eqBool items[i] v) (fun r s2 => (r = true ∧ Q true s2) ∨ (r = false ∧ ∃ H', L2.Inv X pins σ H' s2 ∧ Same H H' ∧ InB D H x (ys.drop (i + 1)) b ∧ i + 1 ≤ ys.length)) X.xe s' := by
  obtain ⟨H1, I1, e1, p, _⟩ := q
  obtain ⟨its, r, pl, z⟩ := I1.list (hl.ext e1)
  refine ⟨its.toArray, pl.isList, by rw [List.size_toArray, ← r.length], fun hi => ?_⟩
  have hi2 : i < its.length := by simpa using hi
  have k1 : i < ys.length := by rw [r.length]; exact hi2
  obtain ⟨u, hu, ru⟩ := r.get (List.getElem?_eq_getElem k1)
  have g1 : its[i]? = some its.toArray[i] := by rw [List.getElem?_eq_getElem hi2] <;> simp
  rw [g1] at hu
  rw [Option.some.inj hu]
  rw [List.drop_eq_getElem_cons k1] at p
  cases p with
  | yes d =>
    refine wpAny_mono (h A.in1 pins s' σ H1 _ _ _ u v sb.in1 I1 ru rx (hD _ _ _ _ _ e1 d)) (fun r s2 q => ?_) fun _ _ x => x
    obtain ⟨hr, H2, I2, e2⟩ := q
    exact .inl ⟨hr, k s2 H2 I2 (e1.trans e2)⟩
  | no d p =>
    refine wpAny_mono (h A.in1 pins s' σ H1 _ _ _ u v sb.in1 I1 ru rx (hD _ _ _ _ _ e1 d)) (fun r s2 q => ?_) fun _ _ x => x
    obtain ⟨hr, H2, I2, e2⟩ := q
    exact .inr ⟨hr, H2, I2, e1.trans e2, p, k1⟩
def rInB (K : Frag) (D : Eqb) : R2 := fun x y H Q => ∃ a ys b, y = .ref a ∧ SqL K H a ys ∧ InB D H x ys b ∧ ∀ H', Same H H' → Q (.bl b) H'
def rNotInB (K : Frag) (D : Eqb) : R2 := fun x y H Q => ∃ a ys b, y = .ref a ∧ SqL K H a ys ∧ InB D H x ys b ∧ ∀ H', Same H H' → Q (.bl (!b)) H'
theorem op_inB (hD : MonS D) (h : EqB X n D) (hr : Room (n + 1) X.A) : OpR X (compareOp .In) (rInB X.K D) := by
  intro pins s σ H x y u v Q I rx ry d
  obtain ⟨a, ys, b, rfl, hl, p, k⟩ := d
  cases ry
  show wpAny (model X.prog X.w) X.A (do return Value.bool (← contains (.ref a) u)) _ _ s
  refine wpAny_bind (in_listB (N := ys.length) (J := fun i s' => ∃ H', L2.Inv X pins σ H' s' ∧ Same H H' ∧ InB D H x (ys.drop i) b ∧ i ≤ ys.length) (Q := fun r s' => _) (fun i s' q => turnIn hD h (⟨hr, rfl⟩ : Sub X (n + 1) X.A) hl rx (Q := fun r s' => wpAny _ _ (pure (Value.bool r)) _ _ s') (fun s' H' I' e' => wpAny_pure ⟨.bl b, H', I', rfl, k H' e'⟩) i s' q) (fun s' q => ?_) ⟨H, I, Same.refl _, p, Nat.zero_le _⟩)
  obtain ⟨H', I', e', p, _⟩ := q
  rw [List.drop_length] at p
  cases p
  exact wpAny_pure ⟨.bl false, H', I', rfl, k H' e'⟩
theorem op_notInB (hD : MonS D) (h : EqB X n D) (hr : Room (n + 1) X.A) : OpR X (compareOp .NotIn) (rNotInB X.K D) := by
  intro pins s σ H x y u v Q I rx ry d
  obtain ⟨a, ys, b, rfl, hl, p, k⟩ := d
  cases ry
  show wpAny (model X.prog X.w) X.A (do return Value.bool (!(← contains (.ref a) u))) _ _ s
  refine wpAny_bind (in_listB (N := ys.length) (J := fun i s' => ∃ H', L2.Inv X pins σ H' s' ∧ Same H H' ∧ InB D H x (ys.drop i) b ∧ i ≤ ys.length) (Q := fun r s' => _) (fun i s' q => turnIn hD h (⟨hr, rfl⟩ : Sub X (n + 1) X.A) hl rx (Q := fun r s' => wpAny _ _ (pure (Value.bool (!r))) _ _ s') (fun s' H' I' e' => wpAny_pure ⟨.bl (!b), H', I', rfl, k H' e'⟩) i s' q) (fun s' q => ?_) ⟨H, I, Same.refl _, p, Nat.zero_le _⟩)
  obtain ⟨H', I', e', p, _⟩ := q
  rw [List.drop_length] at p
  cases p
  exact wpAny_pure ⟨.bl true, H', I', rfl, k H' e'⟩
theorem turnL (hD : MonS D) (h : EqB X n D) {A : Around} (sb : Sub X (n + 1) A) {pins : List (Addr × Obj)} {σ : L2.St} {H : Hp} {a c : Addr} {xs ys : List V} {b : Bool} {P : Shared → Prop} (hx : SqL X.K H a xs) (hy : SqL X.K H c ys) (hl : xs.length = ys.length)
    (k : ∀ s' H', b = false → L2.Inv X pins σ H' s' → Same H H' → P s') (i : Nat) (s' : Shared) (q : ∃ H', L2.Inv X pins σ H' s' ∧ Same H H' ∧ PrsB D H (xs.drop i) (ys.drop i) b) :
    ∃ items items2 : Array Value, s'.heap.IsList a items ∧ s'.heap.IsList c items2 ∧ items.size = xs.length ∧ items2.size = xs.length ∧ ∀ (h1 : i < items.size) (h2 : i < items2.size), wpAny (model X.prog X.w) A.in1 (eqBool items[i] items2[i])
      (fun r s2 => (r = true ∧ ∃ H', L2.Inv X pins σ H' s2 ∧ Same H H' ∧ PrsB D H (xs.drop (i + 1)) (ys.drop (i + 1)) b) ∨ (r = false ∧ TwoL a c xs.length s2 ∧ P s2)) X.xe s' := by
  obtain ⟨H1, I1, e1, p⟩ := q
  obtain ⟨its, r, pl, z⟩ := I1.list (hx.ext e1)
  obtain ⟨its2, r2, pl2, z2⟩ := I1.list (hy.ext e1)
  refine ⟨its.toArray, its2.toArray, pl.isList, pl2.isList, by rw [List.size_toArray, ← r.length], by rw [List.size_toArray, ← r2.length, hl], fun h1 h2 => ?_⟩
  have g1 : its[i]? = some its.toArray[i] := by
    have h1' : i < its.length := by simpa using h1
    rw [List.getElem?_eq_getElem h1'] <;> simp
  have g2 : its2[i]? = some its2.toArray[i] := by
    have h2' : i < its2.length := by simpa using h2
    rw [List.getElem?_eq_getElem h2'] <;> simp
  have k1 : i < xs.length := by rw [r.length]; simpa using h1
  have k2 : i < ys.length := by rw [r2.length]; simpa using h2
  obtain ⟨u, hu, ru⟩ := r.get (List.getElem?_eq_getElem k1)
  obtain ⟨v, hv, rv⟩ := r2.get (List.getElem?_eq_getElem k2)
  rw [g1] at hu
  rw [g2] at hv
  rw [Option.some.inj hu, Option.some.inj hv]
  rw [List.drop_eq_getElem_cons k1, List.drop_eq_getElem_cons k2] at p
  cases p with
  | no d =>
    refine wpAny_mono (h A.in1 pins s' σ H1 _ _ _ u v sb.in1 I1 ru rv (hD _ _ _ _ _ e1 d)) (fun r s2 q => ?_) fun _ _ x => x
    obtain ⟨hr, H2, I2, e2⟩ := q
    obtain ⟨it, rr, pp, _⟩ := I2.list (hx.ext (e1.trans e2))
    obtain ⟨it2, rr2, pp2, _⟩ := I2.list (hy.ext (e1.trans e2))
    exact .inr ⟨hr, ⟨it.toArray, it2.toArray, pp.isList, pp2.isList, by rw [List.size_toArray, ← rr.length], by rw [List.size_toArray, ← rr2.length, hl]⟩, k s2 H2 rfl I2 (e1.trans e2)⟩
  | yes d p =>
    refine wpAny_mono (h A.in1 pins s' σ H1 _ _ _ u v sb.in1 I1 ru rv (hD _ _ _ _ _ e1 d)) (fun r s2 q => ?_) fun _ _ x => x
    obtain ⟨hr, H2, I2, e2⟩ := q
    exact .inl ⟨hr, H2, I2, e1.trans e2, p⟩
theorem prs_last {D : Eqb} {H : Hp} {xs ys : List V} {b : Bool} (hl : xs.length = ys.length) (p : PrsB D H (xs.drop xs.length) (ys.drop xs.length) b) : b = true := by
  rw [List.drop_length, hl, List.drop_length] at p
  cases p
  rfl
def rLstB (K : Frag) (D : Eqb) : R2 := fun x y H Q => ∃ a c xs ys b, x = .ref a ∧ y = .ref c ∧ SqL K H a xs ∧ SqL K H c ys ∧ LstB D H xs ys b ∧ ∀ H', Same H H' → Q (.bl b) H'
def rLstN (K : Frag) (D : Eqb) : R2 := fun x y H Q => ∃ a c xs ys b, x = .ref a ∧ y = .ref c ∧ SqL K H a xs ∧ SqL K H c ys ∧ LstB D H xs ys b ∧ ∀ H', Same H H' → Q (.bl (!b)) H'
theorem op_eqL (hD : MonS D) (h : EqB X n D) (hr : Room (n + 1) X.A) : OpR X (compareOp .Eq) (rLstB X.K D) := by
  intro pins s σ H x y u v Q I rx ry d
  obtain ⟨a, c, xs, ys, b, rfl, rfl, hx, hy, p, k⟩ := d
  cases rx
  cases ry
  show wpAny _ _ (richCompare .Eq _ _) _ _ _
  rcases p with ⟨hl, rfl⟩ | ⟨hl, p⟩
  · obtain ⟨its, r, pl, z⟩ := I.list hx
    obtain ⟨its2, r2, pl2, z2⟩ := I.list hy
    exact eq_list_lengthsAt pl.isList pl2.isList (by simpa [← r.length, ← r2.length] using hl) hr.units0 ⟨.bl false, H, I, rfl, k H (Same.refl _)⟩
  · refine rc_lstB hr.units0 (N := xs.length) (J := fun i s' => ∃ H', L2.Inv X pins σ H' s' ∧ Same H H' ∧ PrsB D H (xs.drop i) (ys.drop i) b) (fun i s' q => turnL hD h (⟨hr, rfl⟩ : Sub X (n + 1) X.A) hx hy hl (P := fun s' => EP X pins σ Q (.bool false) s') (fun s' H' hb I' e' => ⟨.bl false, H', I', rfl, by have := k H' e'; rw [hb] at this; exact this⟩) i s' q) (fun s' q => ?_) ⟨H, I, Same.refl _, p⟩
    obtain ⟨H', I', e', p⟩ := q
    have hb := prs_last hl p
    subst hb
    exact ⟨.bl true, H', I', rfl, k H' e'⟩
theorem op_neL (hD : MonS D) (h : EqB X n D) (hr : Room (n + 1) X.A) : OpR X (compareOp .NotEq) (rLstN X.K D) := by
  intro pins s σ H x y u v Q I rx ry d
  obtain ⟨a, c, xs, ys, b, rfl, rfl, hx, hy, p, k⟩ := d
  cases rx
  cases ry
  show wpAny _ _ (richCompare .NotEq _ _) _ _ _
  rcases p with ⟨hl, rfl⟩ | ⟨hl, p⟩
  · obtain ⟨its, r, pl, z⟩ := I.list hx
    obtain ⟨its2, r2, pl2, z2⟩ := I.list hy
    exact rc_lstLen pl.isList pl2.isList (by simpa [← r.length, ← r2.length] using hl) hr.units0 ⟨.bl true, H, I, rfl, k H (Same.refl _)⟩
  · refine rc_lstN hr.units0 (N := xs.length) (J := fun i s' => ∃ H', L2.Inv X pins σ H' s' ∧ Same H H' ∧ PrsB D H (xs.drop i) (ys.drop i) b) (fun i s' q => turnL hD h (⟨hr, rfl⟩ : Sub X (n + 1) X.A) hx hy hl (P := fun s' => EP X pins σ Q (.bool true) s') (fun s' H' hb I' e' => ⟨.bl true, H', I', rfl, by have := k H' e'; rw [hb] at this; exact this⟩) i s' q) (fun s' q => ?_) ⟨H, I, Same.refl _, p⟩
    obtain ⟨H', I', e', p⟩ := q
    have hb := prs_last hl p
    subst hb
    exact ⟨.bl false, H', I', rfl, k H' e'⟩
end
end Ps

/-! def m(self, *v); C(..), C(*x), C(*x, *y) by such an __init__. -/
namespace Ps
open PySem PySem.Spec PyProof.Rows PySem.W L2

theorem Fun.star1 {Z : Cz} {x qual p1 pv : Str} {st : Stmt} {f : Addr} {fd : FuncData} {N : List Str} {k : Nat} {sp : Sp} {CX : CXT} (F : Fun Z.K x qual st f fd) (S : FnScope N [p1, pv] (defScope st)) (hCX : StX.CXUp CX)
    (h0 : ∀ (kV doc pm : Value) (an : Option Addr) (cdv ct a : Value), bindArgs (fnOf x qual (defArgs st) (defBody st) (defScope st) .none kV doc pm an cdv ct) ⟨[a], []⟩ = (newTuple [] >>= fun t => pure [(p1, a), (pv, t)]))
    (h1 : ∀ (kV doc pm : Value) (an : Option Addr) (cdv ct a : Value) (r : Value) (rs : List Value), bindArgs (fnOf x qual (defArgs st) (defBody st) (defScope st) .none kV doc pm an cdv ct) ⟨a :: r :: rs, []⟩ = (newTuple (r :: rs) >>= fun t => pure [(p1, a), (pv, t)]))
    (hbody : ∀ (cdv : Value) (A : Around) (outer : List Env) (s : Shared) (H : Hp) (vs : List V) (Q : VK) (E : XK), Room k (A.deeper (envOfC qual (defScope st) s.heap.objs.size f cdv)) → sp vs H Q E →
      ∃ t, PSs (cxOf CX Z.P Z.w Z.K Z.mg Z.base N qual (defScope st) f cdv A outer s H E) (defBody st) t ∧ t { nx := fun _ H' => Q .non H', rt := Q } (start N vs) H) :
    FnR Z.P Z.w Z.K Z.mg Z.base CX (k + 1) f (fun vs H Q E => ∃ y ys, vs = y :: ys ∧ ys.length ≤ sizeLine ∧ ∀ p, H p = none → sp [y, V.ref p] (upd H p (.tup ys)) Q E) := by
  obtain ⟨oc, od, kV, doc, pm, an, cdv, ct, osl, rfl, lk, hcd⟩ := F.ex
  have G := StX.fn_star (ps := [p1]) (pv := pv) (sp := sp) (k := k) (P := Z.P) (w := Z.w) (mg := Z.mg) (base := Z.base) lk hcd S hCX (fun us rest hl => match us, rest, hl with | [a], [], _ => h0 kV doc pm an cdv ct a | [a], r :: rs, _ => h1 kV doc pm an cdv ct a r rs) (fun A outer s H vs Q E hr hsp => hbody cdv A outer s H vs Q E hr hsp)
  exact G.imp fun vs H Q E ⟨y, ys, e, hl, h⟩ => ⟨[y], ys, e, rfl, hl, h⟩
theorem evalArgs_two {M : Model} {A : Around} {E : Value → Shared → Prop} {s : Shared} {f : Value} {x y : Sem Value} {r : List (Bool × Sem Value)} {Q : Args → Shared → Prop}
    (h : wpAny M A (spliced ((true, x) :: (true, y) :: r)) (fun vs s₂ => Q ⟨vs, []⟩ s₂) E s) : wpAny M A (evalArgs f true ((true, x) :: (true, y) :: r) []) Q E s := by
  unfold evalArgs
  show wpAny M A (spliced ((true, x) :: (true, y) :: r) >>= _) Q E s
  refine wpAny_bind (wpAny_mono h (fun vs s' h' => ?_) fun _ _ x => x)
  refine wpAny_holding ?_
  exact wpAny_bind (wpAny_pure (wpAny_bind (wpAny_pure (wpAny_pure h'))))
theorem fnR_calm {P : Program} {w : World} {K : Frag} {mg : Str → Option Value} {base : Heap} {k : Nat} {f : Addr} {sp sp' : Sp} (F : FnR P w K mg base (L2N.CX P w) k f sp) (h : ∀ vs H Q E, sp' vs H Q E → sp vs H Q E0) : FnR P w K mg base CX0 k f sp' := by
  intro A outer s H us vs Q E hr e0 r hs
  refine codeAny_mono (F A outer s H us vs Q E0 hr e0 r (h _ _ _ _ hs)) fun r s' hq => ?_
  cases r with
  | error e =>
    obtain ⟨_, _, _, _, _, _, _, _, _, _, _, _, z⟩ := hq
    exact z.elim
  | ok fl => cases fl <;> exact hq
/-- the class at C, made by an __init__ with a star -/
def CalCR (Z : Cz) (CX : CXT) (k : Nat) (C : Addr) (x : Str) (sp : Sp) : Prop := ∃ f, FnR Z.P Z.w Z.K Z.mg Z.base CX k f sp ∧ Mk Z.K C f ∧ Z.mg x = some (.ref C)
section
variable {Z : Cz} {X : Cx} {CX : CXT} {k : Nat} {C : Addr} {sp : Sp} {E : XK} {x : Str} {e : Expr} {es : List Expr} {te : TE} {t : TA} {p pos q : Pos}
theorem InZ.fr (z : InZ Z X) {f : Addr} (G : FnR Z.P Z.w Z.K Z.mg Z.base CX k f sp) : FnR X.prog X.w X.K X.mg X.base CX k f sp := by
  obtain ⟨h1, h2, h3, h4, h5⟩ := z
  rw [h1, h2, h3, h4, h5]
  exact G
theorem pe_calCR (c : CalCR Z CX k C x sp) (hr : Room (k + 1) X.A) (hg : Gl X x) (hx : Passes CX X E) (ha : PA X (e :: es) t) (z : InZ Z X := by exact ⟨rfl, rfl, rfl, rfl, rfl⟩)
    (hdb : (x == ("__debug__" : Str)) = false := by decide) (he : starEach (e :: es) X.env = (false, eval e X.env) :: starEach es X.env := by rfl) (hpl : (backTo pos (starEach es X.env)).any (·.1) = false := by rfl) :
    PE X (.Call (.Name x p) (e :: es) [] pos) (StX.tMakeR C sp E t) := by
  obtain ⟨f, F, M, h⟩ := c
  exact StX.pe_makeR (by rw [z.K]; exact M) (z.fr F) hr hg (by rw [z.mg]; exact h) hx ha hdb he hpl
/-- C() -/
theorem pe_calCR0 (c : CalCR Z CX k C x sp) (hr : Room (k + 1) X.A) (hg : Gl X x) (hx : Passes CX X E) (z : InZ Z X := by exact ⟨rfl, rfl, rfl, rfl, rfl⟩)
    (hdb : (x == ("__debug__" : Str)) = false := by decide) : PE X (.Call (.Name x p) [] [] pos) (StX.tMakeR C sp E tNil) := by
  obtain ⟨f, F, M, h⟩ := c
  rw [← z.K] at M
  refine ⟨fun pins s σ H Q I h' => ?_⟩
  refine wpAny_Call_Name_kw (ld_glob I hg (by rw [z.mg]; exact h) ?_ hdb)
  exact PySem.W.callWith_K0 I.kIn M.kp (StX.run_makeR M (z.fr F) hr hx I .nil h')
/-- C(*e) -/
theorem pe_calCS1 (c : CalCR Z CX k C x sp) (hr : Room (k + 1) X.A) (hg : Gl X x) (hx : Passes CX X E) (he : PE X e te) (z : InZ Z X := by exact ⟨rfl, rfl, rfl, rfl, rfl⟩)
    (hdb : (x == ("__debug__" : Str)) = false := by decide) (hst : starEach [.Starred e q] X.env = [(true, eval e X.env)] := by rfl) :
    PE X (.Call (.Name x p) [.Starred e q] [] pos) (StX.tMakeR C sp E (StX.tStar Z.K te tNil)) := by
  obtain ⟨f, F, M, h⟩ := c
  rw [← z.K] at M ⊢
  refine ⟨fun pins s σ H Q I h' => ?_⟩
  refine wpAny_Call_Name_kw (ld_glob I hg (by rw [z.mg]; exact h) ?_ hdb)
  refine PySem.W.callWith_S (h₀ := X.base) I.ok.mod.kin M.kp (thn (he.run pins s σ H _ I h') fun v s1 ⟨y, H1, I1, ry, a, xs, ey, hxs, q⟩ => ?_) hst
  subst ey
  obtain rfl : v = Value.ref a := ry
  refine StX.star_any I1 hxs fun us s2 I2 rv => ⟨I2.kIn, ?_⟩
  refine StX.run_makeR M (z.fr F) hr hx I2 rv ?_
  have q2 : ∀ x dx, H1 x = Option.none → H1 dx = Option.none → dx ≠ x → sp (V.ref x :: (xs ++ [])) (upd (upd H1 dx (.own x)) x (.ins C dx [])) (fun v H2 => v = .non ∧ Q (.ref x) H2) E := q
  rw [List.append_nil] at q2
  exact q2
/-- C(*e, *e2) -/
theorem pe_calCS2 {e2 : Expr} {q2 : Pos} {te2 : TE} (c : CalCR Z CX k C x sp) (hr : Room (k + 1) X.A) (hg : Gl X x) (hx : Passes CX X E) (he : PE X e te) (he2 : PE X e2 te2) (z : InZ Z X := by exact ⟨rfl, rfl, rfl, rfl, rfl⟩)
    (hdb : (x == ("__debug__" : Str)) = false := by decide) (hst : starEach [.Starred e q, .Starred e2 q2] X.env = [(true, eval e X.env), (true, eval e2 X.env)] := by rfl) :
    PE X (.Call (.Name x p) [.Starred e q, .Starred e2 q2] [] pos) (StX.tMakeR C sp E (StX.tStar Z.K te (StX.tStar Z.K te2 tNil))) := by
  obtain ⟨f, F, M, h⟩ := c
  rw [← z.K] at M ⊢
  have ha := StX.pa_star (p := q) he (StX.pa_star (p := q2) he2 (pa_nil (X := X)))
  refine ⟨fun pins s σ H Q I h' => ?_⟩
  refine wpAny_Call_Name_kw (ld_glob I hg (by rw [z.mg]; exact h) ?_ hdb)
  have hr2 := ha.run pos pins s σ H _ I h'
  rw [hst] at hr2 ⊢
  refine PySem.W.ks_call rfl (PySem.W.keeps_K M.kp) (evalArgs_two (thn hr2 fun us s1 ⟨vs, H1, I1, r, q⟩ => ⟨I1.kIn, ?_⟩))
  exact StX.run_makeR M (z.fr F) hr hx I1 r q
end
end Ps

/-! No instance of the class. -/
namespace Ps
open PySem PySem.Spec PyProof.Rows PySem.W L2

def NoIn (K : Frag) (C : Addr) (H : Hp) (v : V) : Prop := ∃ t, TyX K H v t ∧ kitOne K t (.ref C) = some false
theorem NoIn.mono {K : Frag} {C : Addr} {H H' : Hp} {v : V} (e : Same H H') (h : NoIn K C H v) : NoIn K C H' v := let ⟨t, h1, h2⟩ := h; ⟨t, tyX_same e h1, h2⟩
end Ps

/-! len(x) of an instance with an own __len__. -/
namespace Ps
open PySem PySem.Spec PyProof.Rows PySem.W L2

def rLenO (C : Addr) (sp : Sp) (E : XK) : List V → Hp → VK → Prop := fun xs H Q => ∃ x, xs = [x] ∧ InsC C H x ∧ sp [x] H (fun v H' => ∃ n : Nat, v = .int n ∧ n ≤ 100000 ∧ Q (.int n) H') E
theorem len_cal {Z : Cz} {X : Cx} {CX : CXT} {k : Nat} {C : Addr} {ps : List Str} {sp : Sp} {E : XK} (c : CalS Z CX k C "__len__" ps sp) (hr : Room (k + 1) X.A) (hx : Passes CX X E) (z : InZ Z X := by exact ⟨rfl, rfl, rfl, rfl, rfl⟩) : CallR X (.builtin "len") (rLenO C sp E) := by
  obtain ⟨f, fd, G, O, hb⟩ := c
  rw [← z.K] at O hb
  intro pins s σ H xs us Q I r h
  obtain ⟨x, rfl, ⟨a, dx, fs, rfl, ha⟩, h⟩ := h
  obtain ⟨u, rfl, r1⟩ := vals1 r
  cases (show u = Value.ref a from r1)
  obtain ⟨mA, J, _⟩ := ins_get I.hok ha
  obtain ⟨od, J, _⟩ := J.look
  obtain ⟨m, Fr⟩ := I.fr
  refine len_K Fr I.mod.kin J O.fn O.isf (wpAny_mono (run_fn1 (us := [.ref a]) (vs := [.ref a]) (z.ok G) hr hb hx I (.cons rfl .nil) h) (fun v s' q => ?_) fun _ _ z => z)
  obtain ⟨y, H1, I1, r1, n, rfl, hn, q⟩ := q
  obtain ⟨t, rfl⟩ := r1
  exact ⟨⟨by omega, by omega⟩, .int n, H1, I1.tok _, ⟨_, rfl⟩, q⟩
end Ps

/-! lambdas of one parameter, closed over the maker's names, handed to a def that calls them. -/
namespace Ps
open PySem PySem.Spec PyProof.Rows PySem.W L2 LamX

/-- f is this lambda -/
def LamAt (H : Hp) (f : Addr) (q : Str) (params : Arguments) (body : Expr) (scope : Scope) (cl : List (Str × Addr)) : Prop :=
  ∃ (pm ctv : Value) (c' : Addr), H f = some (LamO f (kla_obj "<lambda>" q params body scope cl pm c' ctv)) ∧ H c' = some (CodeO c' q)
/-- f is some lambda -/
def IsLam (H : Hp) (f : Addr) : Prop := ∃ (q : Str) (params : Arguments) (body : Expr) (scope : Scope) (cl : List (Str × Addr)), LamAt H f q params body scope cl
theorem LamAt.is {H : Hp} {f : Addr} {q : Str} {params : Arguments} {body : Expr} {scope : Scope} {cl : List (Str × Addr)} (h : LamAt H f q params body scope cl) : IsLam H f := ⟨_, _, _, _, _, h⟩
theorem lamO_ne {f : Addr} {o : Obj} (ps : Array Value) : LamO f o ≠ .tbl ps := fun z => by
  unfold LamO at z
  cases z
theorem LamAt.gr {T : List (Addr × Str)} {H H1 : Hp} {f : Addr} {q : Str} {params : Arguments} {body : Expr} {scope : Scope} {cl : List (Str × Addr)} (h : LamAt H f q params body scope cl) (g : Gr T none H H1) : LamAt H1 f q params body scope cl := by
  obtain ⟨pm, ctv, c', h1, h2⟩ := h
  exact ⟨pm, ctv, c', g.x _ _ (by simp) h1 lamO_ne, g.x _ _ (by simp) h2 codeO_ne⟩
theorem LamAt.same {H H1 : Hp} {f : Addr} {q : Str} {params : Arguments} {body : Expr} {scope : Scope} {cl : List (Str × Addr)} (h : LamAt H f q params body scope cl) (e : Same H H1) : LamAt H1 f q params body scope cl := h.gr (T := []) (.of e)
theorem IsLam.gr {T : List (Addr × Str)} {H H1 : Hp} {f : Addr} (h : IsLam H f) (g : Gr T none H H1) : IsLam H1 f := by
  obtain ⟨_, _, _, _, _, h⟩ := h
  exact (h.gr g).is
theorem IsLam.fn {P : Program} {w : World} {H : Hp} {h : Heap} {f : Addr} (l : IsLam H f) (ok : HOk P w H h) : FnAt f h := by
  obtain ⟨_, _, _, _, _, _, _, _, h1, _⟩ := l
  exact ⟨_, _, _, _, (ok f _ h1).1⟩
/-- the lambda's names: its one parameter, captured ones, globals -/
structure LamP (sc scope : Scope) (p : Str) : Prop where
  kind : scope.kind = .function
  co : scope.isCoroutine = false
  gen : scope.isGenerator = false
  own : ∀ y ∈ scope.names, y.2 ≠ .cell ∧ (y.2 = .local → y.1 = p)
  par : scope.names.lookup p = some .local
  free : ∀ y ∈ scope.names, y.2 = .free → sc.names.lookup y.1 = some .cell ∨ sc.names.lookup y.1 = some .free
def lamPB (sc scope : Scope) (p : Str) : Bool :=
  decide (scope.kind = .function) && !scope.isCoroutine && !scope.isGenerator && decide (scope.names.lookup p = some .local) && scope.names.all fun y => !decide (y.2 = .cell) && (!decide (y.2 = .local) || decide (y.1 = p)) && (!decide (y.2 = .free) || decide (sc.names.lookup y.1 = some .cell) || decide (sc.names.lookup y.1 = some .free))
theorem lamP_by {sc scope : Scope} {p : Str} (h : lamPB sc scope p = true) : LamP sc scope p := by
  unfold lamPB at h
  simp only [Bool.and_eq_true, Bool.or_eq_true, Bool.not_eq_true', decide_eq_true_eq, decide_eq_false_iff_not, List.all_eq_true] at h
  obtain ⟨⟨⟨⟨h1, h2⟩, h3⟩, h5⟩, h4⟩ := h
  refine ⟨h1, h2, h3, fun y hy => ⟨(h4 y hy).1.1, fun e => (h4 y hy).1.2.elim (fun z => absurd e z) id⟩, h5, fun y hy e => ?_⟩
  rcases (h4 y hy).2 with (z | z) | z
  · exact absurd e z
  · exact .inl z
  · exact .inr z
theorem LamP.has {X : Cx} {scope : Scope} {p : Str} (L : LamP X.env.scope scope p) (ok : X.Ok) : ∀ y ∈ scope.names, y.2 = .free → ∃ c, X.env.cells.lookup y.1 = some c := fun y hy e => by
  rcases L.free y hy e with k | k
  · exact ok.has _ (.inl k)
  · exact ok.has _ (.inr k)
/-- the context of the lambda's body -/
def lamCxP (X : Cx) (A : Around) (outer : List Env) (s : Shared) (H : Hp) (E : XK) (scope : Scope) (f c' : Addr) (p : Str) : Cx where
  prog := X.prog
  w := X.w
  K := X.K
  mg := X.mg
  base := X.base
  A := A.deeper (lamEnv X scope s.heap.objs.size f c')
  N := X.N ++ [p]
  s_0 := s
  H_0 := H
  env := lamEnv X scope s.heap.objs.size f c'
  outer := outer
  stack := lamEnv X scope s.heap.objs.size f c' :: outer
  ex := []
  fn := fun _ => false
  calm := true
  pn := []
  xe := fun e s' => wpAny (model X.prog X.w) (A.deeper (lamEnv X scope s.heap.objs.size f c')) (leaving (lamEnv X scope s.heap.objs.size f c') e) (fun _ s'' => L2N.CX X.prog X.w outer H s E e s'') (fun e' s'' => L2N.CX X.prog X.w outer H s E e' s'') s'
theorem takes_lam {X : Cx} {A : Around} {outer : List Env} {s : Shared} {H : Hp} {E : XK} {scope : Scope} {f c' : Addr} {p : Str} : L2N.Takes (lamCxP X A outer s H E scope f c' p) (fun cls d _ H => E cls d H) := L2N.takes_of rfl rfl rfl rfl
/-- what is called at f behaves as tl tells, as long as what was there stands -/
def LamRun (P : Program) (w : World) (K : Frag) (mg : Str → Option Value) (base : Heap) (j : Nat) (fs : List Addr) (H0 : Hp) (h0 : Heap) (f : Addr) (tl : XK → V → Hp → VK → Prop) : Prop :=
  ∀ (A : Around) (outer : List Env) (s : Shared) (H : Hp) (u : Value) (v : V) (Q : VK) (E : XK), Room (j + 1) A → Env0 P w K mg base A outer s H → Un fs [] H0 H h0 s.heap → RelV v u → tl E v H Q →
    codeAny (model P w) A (.call (.ref f) ⟨[u], []⟩) (CR (L2N.CX P w) outer P w H s Q E) s
section
variable {X : Cx} {pins : List (Addr × Obj)} {σ : L2.St} {H HZ : Hp} {s s1 : Shared}
theorem lam_startP {A : Around} {outer : List Env} {E : XK} {scope : Scope} {f c' : Addr} {h₁ : Heap} {tk : Nat} {p : Str} {u : Value} {v : V} (I : Inv X pins σ H s) (L : LamP X.env.scope scope p) (hp : p ∉ X.N) (e0 : Env0 X.prog X.w X.K X.mg X.base A outer s1 HZ) (hd : A.handled = none)
    (un : Un (frs X.stack) [] H HZ s.heap s1.heap) (hns : h₁.Ns s1.heap.objs.size fun y => ([(p, u)] : List (Str × Value)).reverse.lookup y) (kp : ∀ b o, s1.heap.get? b = some o → h₁.get? b = some o) (rv : RelV v u) :
    Inv (lamCxP X A outer s1 HZ E scope f c' p) [] (σ ++ [some v]) HZ { s1 with heap := h₁, toks := tk } := by
  have hfree := L.has I.ok
  have cm : ∀ {y c}, (cloFrom X.env.cells scope.names []).lookup y = some c → X.env.cells.lookup y = some c := fun {y c} e => by
    rcases cloFrom_mem (PySem.mem_of_lookup e) with hm | ⟨h1, h2⟩
    · cases hm
    · obtain ⟨c1, hc⟩ := hfree _ h1 rfl
      have hc : X.env.cells.lookup y = some c1 := hc
      have e2 : c = c1 := by
        rw [h2, hc] <;> rfl
      rw [e2]
      exact hc
  have look : ∀ {y}, scope.names.lookup y = some .free → ∃ c, (cloFrom X.env.cells scope.names []).lookup y = some c := fun {y} hl => by
    have hy : (y, NameKind.free) ∈ scope.names := PySem.mem_of_lookup hl
    exact mem_lookup (cloFrom_has (cells := X.env.cells) (acc := []) hy)
  have cellK : ∀ {c : Addr} {v : Option Value}, H c = none → s.heap.IsCell c v → h₁.IsCell c v := fun {c v} n ⟨o, ho, hd⟩ => by
    obtain ⟨sl, q⟩ := un.any ho n (by simp)
    exact ⟨_, kp _ _ q, hd⟩
  have noA : ∀ b : Addr, b ∉ (lamCxP X A outer s1 HZ E scope f c' p).ex := fun b z => absurd (show b ∈ ([] : List Addr) from z) (by simp)
  refine ⟨⟨e0.mod, L.kind, rfl, rfl, Nat.le_refl _, fun y z c e1 e2 => I.ok.inj y z c (cm e1) (cm e2), fun y hy => ?_, fun y c z _ => ?_, fun _ => hd, Around.frames_deeper e0.frames, .inr ⟨rfl, rfl⟩, fun b z => absurd z (noA b), e0.bs, e0.bsz, fun b _ _ => noA b,
      fun b z => absurd z (noA b), e0.funs, e0.frf⟩,
    rfl, e0.bare, Un.kept kp, ⟨_, hns, fun i y v' e1 e2 e3 => ?_⟩, fun y c e => ?_, e0.hok.fresh (Nat.le_refl _), fun y c e => ?_, fun q hq => absurd (show q ∈ ([] : List (Addr × Obj)) ++ [] from hq) (by simp), e0.hok.kept kp, ?_⟩
  · have hy : scope.names.lookup y = some .cell ∨ scope.names.lookup y = some .free := hy
    rcases hy with hy | hy
    · exact absurd rfl (L.own _ (PySem.mem_of_lookup hy)).1
    · exact look hy
  · have z : false = true := z
    cases z
  · have e3 : Vis scope y := e3
    have e1 : (X.N ++ [p])[i]? = some y := e1
    by_cases hi : i < X.N.length
    · rw [List.getElem?_append_left hi] at e1
      rw [List.getElem?_append_left (by rw [I.len]; exact hi)] at e2
      have hyN : y ∈ X.N := List.mem_of_getElem? e1
      rcases e3 with k | k | k
      · have z := (L.own _ (PySem.mem_of_lookup k)).2 rfl
        exact absurd (show p ∈ X.N by rw [← z]; exact hyN) hp
      · exact absurd rfl (L.own _ (PySem.mem_of_lookup k)).1
      · obtain ⟨m, hn, hl⟩ := I.loc
        have hvis : Vis X.env.scope y := (L.free _ (PySem.mem_of_lookup k) rfl).elim (fun k => .inr (.inl k)) (fun k => .inr (.inr k))
        obtain ⟨w', r, q⟩ := hl i y v' e1 e2 hvis
        obtain ⟨c2, h2⟩ := look k
        refine ⟨w', r, .inr ⟨.inr k, c2, h2, ?_⟩⟩
        have c1 := cm h2
        rcases q with ⟨k', _⟩ | ⟨_, c3, e', z⟩
        · have k' : X.env.scope.names.lookup y = some .local := k'
          rcases L.free _ (PySem.mem_of_lookup k) rfl with k2 | k2 <;> rw [show X.env.scope.names.lookup y = _ from k2] at k' <;> cases k'
        · rw [c1] at e'
          cases e'
          exact cellK (I.freeC y _ c1) z
    · have hi2 : i = X.N.length := by
        have := (List.getElem?_eq_some_iff.mp e1).1
        rw [List.length_append] at this
        have h1 : [p].length = 1 := rfl
        omega
      subst hi2
      rw [List.getElem?_append_right (Nat.le_refl _), Nat.sub_self] at e1
      rw [List.getElem?_append_right (by rw [I.len]; exact Nat.le_refl _), I.len, Nat.sub_self] at e2
      cases e1
      cases e2
      refine ⟨u, rv, .inl ⟨L.par, ?_⟩⟩
      show ([(p, u)] : List (Str × Value)).reverse.lookup p = some u
      simp [List.lookup]
  · obtain ⟨w', z⟩ := I.cell y c (cm e)
    exact ⟨w', cellK (I.freeC y c (cm e)) z⟩
  · obtain ⟨v, o, ho, hd⟩ := I.cell y c (cm e)
    exact un.free c o ho (I.freeC y c (cm e)) (by simp)
  · show (σ ++ [some v]).length = (X.N ++ [p]).length
    rw [List.length_append, List.length_append, I.len]
    rfl
theorem lam_run {scope : Scope} {params : Arguments} {body : Expr} {p : Str} {f : Addr} {j : Nat} {t : XK → TE} (I : Inv X pins σ H s) (L : LamP X.env.scope scope p) (hp : p ∉ X.N)
    (hbind : ∀ (q : Str) (cl : List (Str × Addr)) (pm cv ctv u : Value), bindArgs (kla_fn "<lambda>" q params body scope cl pm cv ctv) ⟨[u], []⟩ = pure [(p, u)])
    (hbody : ∀ (A : Around) (outer : List Env) (s : Shared) (H : Hp) (E : XK) (f c' : Addr), Room j (A.deeper (lamEnv X scope s.heap.objs.size f c')) → PE (lamCxP X A outer s H E scope f c' p) body (t E)) :
    LamRun X.prog X.w X.K X.mg X.base j (frs X.stack) H s.heap f (fun E v HZ Q => LamAt HZ f (X.env.qual ++ "<lambda>") params body scope (cloFrom X.env.cells scope.names []) ∧ t E (σ ++ [some v]) HZ Q) := by
  intro A outer s1 HZ u v Q E hr e0 un rv ⟨la, ht⟩
  obtain ⟨pm, ctv, c', hf, hc⟩ := la
  have of1 := (e0.hok f _ hf).1
  obtain ⟨oc, vs, tk, hoc, hdc, hvc⟩ := (e0.hok c' _ hc).1
  have lim : s1.heap.NoLimit := e0.mod.nolimit.keeps fun b o e => (e0.bs b o e).1
  refine kla_callFunE hr.depth of1 rfl L.co L.gen rfl ⟨c', oc, vs, tk, rfl, hoc, hdc, hvc⟩ ?_
  rw [hbind]
  refine wpAny_pure (wpAny_newFunctionEnv (fun y hy => (L.own y hy).1) (fun y hy => by rw [List.mem_singleton.mp hy]; exact L.par) (fun h₁ hns hsb => ⟨lim.fresh _ hsb, ?_⟩) L.kind)
  show codeAny _ _ (.expr body (lamEnv X scope s1.heap.objs.size f c')) _ _
  have kp : ∀ b o, s1.heap.get? b = some o → h₁.get? b = some o := fun b o e => hsb.extBut b o (Nat.ne_of_lt (Heap.lt_size e)) (Heap.get?_push_of_some _ e)
  have J : Inv (lamCxP X A outer s1 HZ E scope f c' p) [] (σ ++ [some v]) HZ { s1 with heap := h₁, toks := s1.toks + ([(p, u)] : List (Str × Value)).length } :=
    lam_startP I L hp e0 hr.hd un hns kp rv
  refine kla_codeExpr (wpAny_mono ((hbody _ _ s1 HZ E f c' (hr.deeper _)).run [] _ _ HZ Q J ht) (fun v s' hq => ?_) fun e s' hq => hq)
  obtain ⟨w', H', J', rv, q⟩ := hq
  exact ⟨w', H', J'.os, J'.bare, J'.base, J'.hok, rv, q⟩
/-! ### in the def that got the lambda -/
/-- a(e), a a lambda that was handed in -/
theorem pe_lamS {j i : Nat} {a : Str} {e : Expr} {te : TE} {f : Addr} {tl : XK → V → Hp → VK → Prop} {E : L2.St → XK} {p1 p2 : Pos} (L : LamRun X.prog X.w X.K X.mg X.base j X.fs X.H_0 X.s_0.heap f tl) (hex : X.ex = []) (hr : Room (j + 1) X.A) (hx : ∀ σ, PassesAt (L2N.CX X.prog X.w) X σ (E σ))
    (hN : X.N[i]? = some a) (hv : Vis X.env.scope a) (he : PE X e te) (hdb : (a == ("__debug__" : Str)) = false := by decide) (hcd : (a == ("__classdict__" : Str)) = false := by decide)
    (hs : starEach [e] X.env = (false, eval e X.env) :: starEach [] X.env := by rfl) (hpl : (backTo p2 (starEach [] X.env)).any (·.1) = false := by rfl) :
    PE X (.Call (.Name a p1) [e] [] p2) (fun σ H Q => σ[i]? = some (some (.ref f)) ∧ IsLam H f ∧ te σ H fun v H' => IsLam H' f ∧ tl (E σ) v H' Q) := by
  refine ⟨fun pins s σ H Q I h => ?_⟩
  obtain ⟨hs1, hl, ht⟩ := h
  refine wpAny_Call_Name_kw (thn ((pe_var (pos := p1) hN hv hdb hcd).run pins s σ H (fun v H1 => v = .ref f ∧ H1 = H) I ⟨.ref f, hs1, rfl, rfl⟩) fun u s1 ⟨v, H1, I1, r1, q1⟩ => ?_)
  obtain ⟨rfl, rfl⟩ := q1
  cases r1
  refine callWith_F (hl.fn I1.hok) ?_ hs hpl
  rw [hs]
  show wpAny _ _ (spliced ((false, eval e X.env) :: backTo p2 (starEach [] X.env))) _ _ s1
  refine Calls.spliced_cons (thn (he.run pins s1 σ _ _ I1 ht) fun u s2 ⟨v, H2, I2, r, hl2, q⟩ => ?_)
  refine Calls.spliced_nil ⟨hl2.fn I2.hok, ?_⟩
  refine wpAny_call (codeAny_mono (L X.A X.stack s2 H2 u v Q (E σ) hr I2.env0 (by rw [← hex]; exact I2.base) r q) fun r s' hq => ?_)
  cases r with
  | error e => exact hx σ pins _ _ e s' I2 hq
  | ok fl =>
    cases fl with
    | ret u => exact I2.after hq
    | next => exact False.elim hq
    | brk => exact False.elim hq
    | cont => exact False.elim hq
end
/-- a def that calls the lambda that it gets first; its promise tells by what the lambda does -/
structure GivesL (Z : Cz) (j k : Nat) (g : Addr) (fd : FuncData) (ps : List Str) (sp : (XK → V → Hp → VK → Prop) → Sp) : Prop where
  len : ∀ tl vs H Q E, sp tl vs H Q E → vs.length = ps.length
  run : ∀ (A : Around) (outer : List Env) (s : Shared) (H : Hp) (args : Args) (us : List Value) (vs : List V) (Q : VK) (f : Addr) (tl : XK → V → Hp → VK → Prop), Room k A → Env0 Z.P Z.w Z.K Z.mg Z.base A outer s H → BindsTo s fd args (ps.zip us) → Vals vs us → vs[0]? = some (.ref f) →
    LamRun Z.P Z.w Z.K Z.mg Z.base j (frs outer) H s.heap f tl → sp tl vs H Q E0 → codeAny (model Z.P Z.w) A (.call (.ref g) args) (CR CX0 outer Z.P Z.w H s Q E0) s
def CalL (Z : Cz) (j k : Nat) (x : Str) (ps : List Str) (sp : (XK → V → Hp → VK → Prop) → Sp) : Prop := ∃ g fd, GivesL Z j k g fd ps sp ∧ Z.mg x = some (.ref g) ∧ keepIn Z.K (.ref g) = true ∧ Binds Z.K fd ps []
theorem Fun.okL {Z : Cz} {x qual : Str} {st : Stmt} {g : Addr} {fd : FuncData} {N ps : List Str} {j k : Nat} {sp : (XK → V → Hp → VK → Prop) → Sp} (F : Fun Z.K x qual st g fd) (S : FnScope N ps (defScope st)) (len : ∀ tl vs H Q E, sp tl vs H Q E → vs.length = ps.length)
    (hbody : ∀ (cdv : Value) (A : Around) (outer : List Env) (s : Shared) (H : Hp) (vs : List V) (Q : VK) (f : Addr) (tl : XK → V → Hp → VK → Prop), Room k (A.deeper (envOfC qual (defScope st) s.heap.objs.size g cdv)) → vs[0]? = some (.ref f) → LamRun Z.P Z.w Z.K Z.mg Z.base j (frs outer) H s.heap f tl → sp tl vs H Q E0 →
      ∃ t, PSs (cxOf CX0 Z.P Z.w Z.K Z.mg Z.base N qual (defScope st) g cdv A outer s H E0) (defBody st) t ∧ t { nx := fun _ H' => Q .non H', rt := Q } (start N vs) H) : GivesL Z j (k + 1) g fd ps sp := by
  obtain ⟨oc, od, kV, doc, pm, an, cdv, ct, osl, rfl, lk, hcd⟩ := F.ex
  exact ⟨len, fun A outer s H args us vs Q f tl hr e0 hb r h0 L h => run_ofS lk hcd S hr e0 hb r (len _ _ _ _ _ h) fun hr' => hbody cdv A outer s H vs Q f tl hr' h0 L h⟩
/-- a def's promise, its code object told -/
theorem Fun.okCd {Z : Cz} {x qual : Str} {st : Stmt} {f : Addr} {fd : FuncData} {N ps : List Str} {k : Nat} {sp : Sp} {CX : CXT} (F : Fun Z.K x qual st f fd) (S : FnScope N ps (defScope st)) (len : ∀ vs H Q E, sp vs H Q E → vs.length = ps.length)
    (hbody : ∀ (A : Around) (outer : List Env) (s : Shared) (H : Hp) (vs : List V) (Q : VK) (E : XK), Room k (A.deeper (envOfC qual (defScope st) s.heap.objs.size f fd.code)) → sp vs H Q E →
      ∃ t, PSs (cxOf CX Z.P Z.w Z.K Z.mg Z.base N qual (defScope st) f fd.code A outer s H E) (defBody st) t ∧ t { nx := fun _ H' => Q .non H', rt := Q } (start N vs) H) : Z.ok CX (k + 1) f fd ps sp := by
  obtain ⟨oc, od, kV, doc, pm, an, cdv, ct, osl, rfl, lk, hcd⟩ := F.ex
  exact fn_of lk hcd S len hbody
section
variable {Z : Cz} {X : Cx}
/-- x(lambda p: body, ..) -/
theorem pe_calL {j k : Nat} {x p : Str} {ps : List Str} {sp : (XK → V → Hp → VK → Prop) → Sp} {params : Arguments} {body : Expr} {scope : Scope} {t : XK → TE} {ta : TA} {es : List Expr} {p0 pos lpos : Pos} (c : CalL Z j k x ps sp) (hr : Room k X.A) (hg : Gl X x) (ha : PA X (.Lambda params body scope lpos :: es) ta) (L : LamP X.env.scope scope p) (hp : p ∉ X.N)
    (hbind : ∀ (q : Str) (cl : List (Str × Addr)) (pm cv ctv u : Value), bindArgs (kla_fn "<lambda>" q params body scope cl pm cv ctv) ⟨[u], []⟩ = pure [(p, u)])
    (hbody : ∀ (A : Around) (outer : List Env) (s : Shared) (H : Hp) (E : XK) (f c' : Addr), Room j (A.deeper (lamEnv X scope s.heap.objs.size f c')) → PE (lamCxP X A outer s H E scope f c' p) body (t E)) (z : InZ Z X := by exact ⟨rfl, rfl, rfl, rfl, rfl⟩)
    (hdb : (x == ("__debug__" : Str)) = false := by decide) (he : starEach (.Lambda params body scope lpos :: es) X.env = (false, eval (.Lambda params body scope lpos) X.env) :: starEach es X.env := by rfl) (hpl : (backTo pos (starEach es X.env)).any (·.1) = false := by rfl) :
    PE X (.Call (.Name x p0) (.Lambda params body scope lpos :: es) [] pos) (fun σ H Q => ta σ H fun vs H1 => ∃ f, vs[0]? = some (.ref f) ∧ sp (fun E v HZ Q => LamAt HZ f (X.env.qual ++ "<lambda>") params body scope (cloFrom X.env.cells scope.names []) ∧ t E (σ ++ [some v]) HZ Q) vs H1 Q E0) := by
  obtain ⟨g, fd, G, h1, h2, h3⟩ := c
  rw [← z.K] at h2 h3
  rw [← z.mg] at h1
  refine ⟨fun pins s σ H Q I h => ?_⟩
  refine wpAny_Call_Name_kw (ld_glob I hg h1 ?_ hdb)
  refine PySem.W.callWith_K (h₀ := X.base) I.ok.mod.kin h2 (thn (ha.run pos pins s σ H _ I h) fun us s1 ⟨vs, H1, I1, r, f, hf, q⟩ => ⟨I1.kIn, ?_⟩) he hpl
  have L1 := lam_run (f := f) I1 L hp hbind hbody
  have e0 := I1.env0
  rw [z.P, z.w, z.K, z.mg, z.base] at L1 e0
  have hl : us.length = ps.length := by rw [← r.length]; exact G.len _ _ _ _ _ q
  have run := G.run X.A X.stack s1 H1 ⟨us, []⟩ us vs Q f _ hr e0 (by
    have := h3 s1 us I1.kIn (by rw [List.append_nil]; exact hl)
    rw [List.append_nil] at this
    exact this) r hf L1 q
  rw [← z.P, ← z.w] at run
  refine wpAny_call (codeAny_mono run fun r s2 hq => ?_)
  cases r with
  | error e => exact (show False from hq).elim
  | ok fl =>
    cases fl with
    | ret u => exact I1.after hq
    | next => exact False.elim hq
    | brk => exact False.elim hq
    | cont => exact False.elim hq
end
/-! ### the making -/
def tLamP (T : List (Addr × Str)) (q : Str) (params : Arguments) (body : Expr) (scope : Scope) (cl : List (Str × Addr)) : TE := fun σ H Q => Tabs T H ∧ ∀ f H1, Grow T H H1 → Tabs T H1 → LamAt H1 f q params body scope cl → Q (.ref f) H1
section
variable {X : Cx}
theorem pe_lamP {Z : Cz} {T : List (Addr × Str)} {params : Arguments} {body : Expr} {scope : Scope} {pos : Pos} {p : Str} (M : Mkr Z T X.env.code (X.env.qual ++ "<lambda>")) (L : LamP X.env.scope scope p) (hdef : defaultsOf params X.env = ([], []) := by rfl) (z : InZ Z X := by exact ⟨rfl, rfl, rfl, rfl, rfl⟩) :
    PE X (.Lambda params body scope pos) (tLamP T (X.env.qual ++ "<lambda>") params body scope (cloFrom X.env.cells scope.names [])) := by
  obtain ⟨c, P, hcd, TB, hm, hu⟩ := M.ex
  rw [← z.base, ← z.mg] at TB
  refine ⟨fun pins s σ H Q I h => ?_⟩
  obtain ⟨hT, h⟩ := h
  obtain ⟨ps, hP, ht, ha⟩ := hT _ hm
  have hP' : s.heap.get? P = some { cls := .none, data := .fields ps } := I.hok P _ hP
  refine kla_eval hdef ?_
  have clo := closure_ok (env := X.env) (scope := scope) (L.has I.ok)
  cases hc : codeAmong pos ps.toList with
  | some cv =>
    obtain ⟨c', e, hco⟩ := ha pos cv hc
    subst e
    refine kla_makeFunctionHit (c := c) (ps := ps) clo I.ok.glob (I.mod.glob.keeps I.bk) hcd (TB.code.keeps I.bk) hP' ht hc (TB.bm.keeps I.bk) fun ctv h' tk hx hsz => ?_
    have I1 : Inv X pins σ H { s with heap := h', toks := tk } := I.kept hx
    have n : H h'.objs.size = none := I1.hok.fresh (Nat.le_refl _)
    have g : Grow T H (upd H h'.objs.size (LamO h'.objs.size (kla_obj "<lambda>" (X.env.qual ++ "<lambda>") params body scope (cloFrom X.env.cells scope.names []) ((X.mg "__name__").getD .none) c' ctv))) := .new n
    exact ⟨.ref h'.objs.size, _, I1.laid (t' := tk) (fun b o e => Heap.get?_push_of_some _ e) (Nat.le_refl _) (lamO_ok (Heap.get?_push_size _ rfl)), rfl, h _ _ g (g.t hT) ⟨_, _, _, upd_same, g.x _ _ (by simp) hco codeO_ne⟩⟩
  | none =>
    refine kla_makeFunction (c := c) (ps := ps) clo I.ok.glob (I.mod.glob.keeps I.bk) hcd (TB.code.keeps I.bk) hP' ht hc TB.gP (TB.bm.keeps I.bk) fun c' ctv h' tk hx hge hlt hrec htb => ?_
    obtain ⟨c2, oc, vs, t, e2, hoc, hd, hv⟩ := hrec
    cases e2
    have nC : H c' = none := I.hok.fresh hge
    have I1 := inv_table (t' := tk) (more := #[rawInt pos.line, rawInt pos.col, .ref c']) I hP hx htb hge ⟨oc, vs, t, hoc, hd, hv⟩
    have n := I1.hok.fresh (Nat.le_refl h'.objs.size)
    have g1 : ExtN H (upd (upd H P (.tbl (ps ++ #[rawInt pos.line, rawInt pos.col, .ref c']))) c' (CodeO c' (X.env.qual ++ "<lambda>"))) := fun b o e nt => by
      have nb : b ≠ P := fun z => nt ps (Option.some.inj (e.symm.trans (by rw [z]; exact hP)))
      rw [upd_ne (ne_of_none e nC), upd_ne nb]
      exact e
    have t1 : Tabs T (upd (upd H P (.tbl (ps ++ #[rawInt pos.line, rawInt pos.col, .ref c']))) c' (CodeO c' (X.env.qual ++ "<lambda>"))) := fun p hp => by
      by_cases hb : p.1 = P
      · have eL : (ps ++ #[rawInt pos.line, rawInt pos.col, .ref c']).toList = ps.toList ++ [rawInt pos.line, rawInt pos.col, .ref c'] := by simp
        rw [hu p hp hb, hb]
        refine ⟨_, (upd_ne (ne_of_none hP nC)).trans upd_same, eL ▸ PySem.TriplesOk_snoc _ _ _ _ ht, fun p' cv hcv => ?_⟩
        rcases among_app _ ht (eL ▸ hcv) with z | z
        · obtain ⟨c0, e1, e2⟩ := ha p' cv z
          exact ⟨c0, e1, g1 _ _ e2 codeO_ne⟩
        · exact ⟨c', z, upd_same⟩
      · obtain ⟨ps', a1, a2, a3⟩ := hT p hp
        refine ⟨ps', (upd_ne (ne_of_none a1 nC)).trans ((upd_ne hb).trans a1), a2, fun p' cv hcv => ?_⟩
        obtain ⟨c0, e1, e2⟩ := a3 p' cv hcv
        exact ⟨c0, e1, g1 _ _ e2 codeO_ne⟩
    have g := (Gr.mk (fun b o _ => g1 b o) (fun _ => t1) (fun b h => upd_free (H := H) (fun b h => upd_free (H := H) (fun _ h => h) h) h) : Grow T H _).trans (.new (o := LamO h'.objs.size (kla_obj "<lambda>" (X.env.qual ++ "<lambda>") params body scope (cloFrom X.env.cells scope.names []) ((X.mg "__name__").getD .none) c' ctv)) n)
    refine ⟨.ref h'.objs.size, _, I1.laid (t' := tk) (fun b o e => Heap.get?_push_of_some _ e) (Nat.le_refl _) (lamO_ok (Heap.get?_push_size _ rfl)), rfl, h _ _ g (g.t hT) ⟨_, _, _, upd_same, ?_⟩⟩
    rw [upd_ne (ne_of_none upd_same n)]
    exact upd_same
end
end Ps

set_option maxHeartbeats 8000000
/-! Menus: made, or BadMenu. -/
namespace Ps
open PySem PySem.Spec PyProof.Rows PySem.W L2

/-- books compared -/
def bkR (C CB : Addr) : Eqb := fun x y b H => ∃ p q, BkAt C CB H x p ∧ BkAt C CB H y q ∧ b = decide (p = q)
def dBk (C CB : Addr) : Eqb := DOwn CB (bkR C CB)
theorem bk_inj {C CB : Addr} {H : Hp} {v : V} {p q : Bk} (h : BkAt C CB H v p) (h' : BkAt C CB H v q) : p = q := by
  obtain ⟨a, dx, d, rfl, ha, hs, _⟩ := h
  obtain ⟨a', dx', d', e, ha', hs', _⟩ := h'
  cases e
  rw [ha] at ha'
  cases ha'
  exact hs.inj hs'
theorem dBk_of {C CB : Addr} {H : Hp} {x y : V} {p q : Bk} (h : BkAt C CB H x p) (h' : BkAt C CB H y q) : dBk C CB x y (decide (p = q)) H := by
  obtain ⟨a, dx, d, rfl, ha, hs, ho⟩ := id h
  obtain ⟨a', dx', d', rfl, ha', hs', ho'⟩ := id h'
  refine ⟨a, a', dx, dx', _, _, rfl, rfl, ha, ha', ⟨p, q, h, h', rfl⟩, fun e => ?_⟩
  subst e
  exact decide_eq_true (bk_inj h h')
theorem mon_dBk {C CB : Addr} : MonS (dBk C CB) := fun x y b H H' e d => by
  obtain ⟨a, c, dx, dy, fs, gs, e1, e2, h1, h2, ⟨p, q, g1, g2, g3⟩, h4⟩ := d
  exact ⟨a, c, dx, dy, fs, gs, e1, e2, e _ _ h1, e _ _ h2, ⟨p, q, g1.mono e, g2.mono e, g3⟩, h4⟩
abbrev CBkEq (Z : Cz) (C CB : Addr) : Prop := CalS Z CX0 9 CB "__eq__" ["self", "other"] (spBkEq Z.K C CB)
theorem eqB_bk {Z : Cz} {X : Cx} {C CB : Addr} (c : CBkEq Z C CB) (z : InZ Z X := by exact ⟨rfl, rfl, rfl, rfl, rfl⟩) : EqB X 9 (dBk C CB) := eqB_own c (fun x y b H Q ⟨p, q, h1, h2, e⟩ k => ⟨x, y, p, rfl, h1, .inl ⟨q, h2, fun H' e' => by
  have := k H' e'
  rw [e] at this
  exact this⟩⟩) z
/-- a menu's list -/
def Bks (C CB : Addr) (H : Hp) (xs : List V) (bs : List Bk) : Prop := Al (fun v b => BkAt C CB H v b) xs bs
theorem Bks.mono {C CB : Addr} {H H' : Hp} {xs : List V} {bs : List Bk} (e : Same H H') (h : Bks C CB H xs bs) : Bks C CB H' xs bs := h.imp fun _ _ q => q.mono e
theorem Bks.in_ {C CB : Addr} {H : Hp} {xs : List V} {bs : List Bk} {x : V} {b : Bk} (h : Bks C CB H xs bs) (hx : BkAt C CB H x b) : InB (dBk C CB) H x xs (decide (b ∈ bs)) :=
  InB.of (a := b) h.1 fun i y c h1 h2 => dBk_of (h.2 i y c h1 h2) hx
def MnAt (C CB CM : Addr) (H : Hp) (v : V) (bs : List Bk) : Prop := ∃ a dx l xs, v = .ref a ∧ H a = some (.ins CM dx [("own_books", .ref l)]) ∧ H l = some (.lst xs) ∧ Bks C CB H xs bs ∧ bs.Nodup ∧ bs.length ≤ 64
theorem MnAt.mono {C CB CM : Addr} {H H' : Hp} {v : V} {bs : List Bk} (e : Same H H') (h : MnAt C CB CM H v bs) : MnAt C CB CM H' v bs := by
  obtain ⟨a, dx, l, xs, h1, h2, h3, h4, h5⟩ := h
  exact ⟨a, dx, l, xs, h1, e _ _ h2, e _ _ h3, h4.mono e, h5⟩
theorem MnAt.ins {C CB CM : Addr} {H : Hp} {v : V} {bs : List Bk} (h : MnAt C CB CM H v bs) : InsC CM H v := by
  obtain ⟨a, dx, l, xs, h1, h2, _⟩ := h
  exact ⟨a, dx, _, h1, h2⟩
/-- what a menu may be given -/
inductive ItB (K : Frag) (C CB : Addr) (H : Hp) : V → Option Bk → Prop
  | bk {v : V} {b : Bk} (h : BkAt C CB H v b) : ItB K C CB H v (some b)
  | odd {v : V} (h : NoIn K CB H v) : ItB K C CB H v none
theorem ItB.mono {K : Frag} {C CB : Addr} {H H' : Hp} {v : V} {o : Option Bk} (e : Same H H') (h : ItB K C CB H v o) : ItB K C CB H' v o := by
  cases h with
  | bk h => exact .bk (h.mono e)
  | odd h => exact .odd (h.mono e)
structure MnT (Z : Cz) (CM : Addr) : Prop where
  cl : Cls Z.K CM
  nF : NoAttr Z.K CM "own_books"
  mg : Z.mg "Menu" = some (.ref CM)
  ha : findIn Z.K (.ref CM) "__class__" = some (some (.builtin "object.__class__"))
  hn : specialIn Z.K (.builtin "object.__class__") "__get__" = some (some (.builtin "getset_descriptor.__get__"))
  htk : takesIn Z.K (.builtin "object.__class__") = some true
  hm : mroIn Z.K CM (.type "object") = some true
  kCC : kitOne Z.K (.ref CM) (.ref CM) = some true
  most : ∃ t, Z.mg "MOST_BOOKS" = some (.int 64 t)
  all : Z.mg "all" = none
  len : Z.mg "len" = none
  isi : Z.mg "isinstance" = none
/-- the item that is no book, or comes again, or is one too many -/
def MnBad (o : Option (Option Bk)) (bs : List Bk) : Prop := o = some none ∨ ∃ b, o = some (some b) ∧ (b ∈ bs ∨ bs.length = 64)
def spMenuB (K : Frag) (C CB CM CX : Addr) : Sp := fun vs H Q E => ∃ x dx p ys its H0, vs = [.ref x, .ref p] ∧ H p = some (.tup ys) ∧ H x = some (.ins CM dx []) ∧ Same H0 H ∧ H0 x = none ∧ Al (ItB K C CB H0) ys its ∧ ys.length ≤ 500 ∧
  ((∃ bs, its = bs.map some ∧ bs.Nodup ∧ bs.length ≤ 64 ∧ ∀ H', Same H0 H' → MnAt C CB CM H' (.ref x) bs → Q .non H') ∨
   (∃ i v bs, its.take i = bs.map some ∧ bs.Nodup ∧ bs.length ≤ 64 ∧ ys[i]? = some v ∧ MnBad its[i]? bs ∧ Rz CX "value" v H0 E))
def spMenu (K : Frag) (C CB CM CX : Addr) : Sp := fun vs H Q E => ∃ x dx ys its H0, vs = .ref x :: ys ∧ H x = some (.ins CM dx []) ∧ Same H0 H ∧ H0 x = none ∧ Al (ItB K C CB H0) ys its ∧ ys.length ≤ 500 ∧
  ((∃ bs, its = bs.map some ∧ bs.Nodup ∧ bs.length ≤ 64 ∧ ∀ H', Same H0 H' → MnAt C CB CM H' (.ref x) bs → Q .non H') ∨
   (∃ i v bs, its.take i = bs.map some ∧ bs.Nodup ∧ bs.length ≤ 64 ∧ ys[i]? = some v ∧ MnBad its[i]? bs ∧ Rz CX "value" v H0 E))
abbrev CMenu (Z : Cz) (C CB CM CX : Addr) : Prop := CalCR Z (CXN Z) 12 CM "Menu" (spMenu Z.K C CB CM CX)
section
variable {Z : Cz} {f C CB CM CX P fX : Addr} {fd : FuncData}
theorem ok_Menu (F : Fun Z.K "__init__" "Menu.__init__" s_Menu_dd_init f fd) (M : MnT Z CM) (KB : BkC Z CB) (J : BkI Z CB) (c : CBkEq Z C CB) (TX : ExT Z.K Z.mg "BadMenu" "value" "BadMenu.__init__" CX P fX) : FnR Z.P Z.w Z.K Z.mg Z.base (CXN Z) 12 f (spMenu Z.K C CB CM CX) := by
  have G := Fun.star1 (Z := Z) (CX := CXN Z) (k := 11) (sp := spMenuB Z.K C CB CM CX) (p1 := "self") (pv := "books") (N := ["self", "books", "kept", "book"]) F sc_Menu_dd_init cxUpN (fun _ _ _ _ _ _ _ => rfl) (fun _ _ _ _ _ _ _ _ _ => rfl) (fun cdv A outer s H vs Q E hr h => ?_)
  · refine G.imp fun vs H Q E ⟨x, dx, ys, its, H0, e, hx, e0, hn, al, hl, k⟩ => ⟨.ref x, ys, e, Nat.le_trans hl (by decide), fun p hp => ⟨x, dx, p, ys, its, H0, rfl, upd_same, (Same.upd hp) _ _ hx, e0.trans (Same.upd hp), hn, al, hl, k⟩⟩
  · obtain ⟨x, dx, p, ys, its, H0, rfl, hp, hx, e0, hn, al, hl, k⟩ := h
    obtain ⟨tm, gm⟩ := M.most
    refine ⟨_, (pss_cons (ps_set (i := 2) sc_Menu_dd_init.nd rfl (Or.inl rfl) (pe_lst pa_nil))
      (pss_cons (ps_for (passes_of rfl) rfl (pi_tup (pv 1)) (pg_name (i := 3) sc_Menu_dd_init.nd rfl (Or.inl rfl))
      (pss_cons (ps_if (PW.pt (pw_or (pt_not (pt_val (pe_callB call_isi (by rfl) M.isi (by decide +kernel) (pa_cons (pv 3) (pa_cons (pe_glob (v := .ref CB) rfl KB.mg rfl) pa_nil))))) (pw_or (pt_cmpR (op_inB mon_dBk (eqB_bk c) (hr.mono (by decide))) (pv 3) (pv 2) (by rfl)) (pw_or1 (pt_cmpR op_eq (pe_callB call_len_seq (by rfl) M.len PySem.boot_len (pa_cons (pv 2) pa_nil)) (pe_glob (v := .int 64) rfl gm ⟨_, rfl⟩) (nomark _))))))
        (pss_one (ps_raiseX TX fl_value hr (L2N.takes_of rfl rfl rfl rfl) (pa_cons (pv 3) pa_nil) rfl))
        pss_nil)
        (pss_one (ps_expr (pe_bm PySem.F.plainAttrs_list PySem.F.slot_list_append PySem.F.type_list_append mt_append (pv 2) (pa_cons (pv 3) pa_nil))))))
      (pss_one (ps_fld (pv 0) (pv 2) rfl)))), ?_⟩
    refine ⟨(by show 0 ≤ sizeLine; decide), fun L hL => ?_⟩
    have hL0 : H0 L = none := e0.free hL
    have hLx : L ≠ x := fun z => by rw [z, hx] at hL; cases hL
    have good : ∃ bs : List Bk, (∃ n, n ≤ its.length ∧ its.take n = bs.map some ∧ bs.Nodup ∧ bs.length ≤ 64 ∧ ((n = its.length ∧ ∀ H', Same H0 H' → MnAt C CB CM H' (.ref x) bs → Q .non H') ∨ (∃ v, ys[n]? = some v ∧ MnBad its[n]? bs ∧ Rz CX "value" v H0 E))) := by
      rcases k with ⟨bs, e, nd, hb, k⟩ | ⟨i, v, bs, e, nd, hb, hv, bad, k⟩
      · exact ⟨bs, its.length, Nat.le_refl _, by rw [List.take_length]; exact e, nd, hb, .inl ⟨rfl, k⟩⟩
      · have hi := (List.getElem?_eq_some_iff.mp hv).1
        exact ⟨bs, i, by rw [← al.1]; omega, e, nd, hb, .inr ⟨v, hv, bad, k⟩⟩
    clear k
    obtain ⟨bs, n, hn1, he, nd, hb, k⟩ := good
    have hlen : bs.length = n := by
      have := congrArg List.length he
      rw [List.length_take, List.length_map] at this
      omega
    have itn : ∀ i, i < n → its[i]? = some (bs[i]?) := fun i hi => by
      have h1 : (its.take n)[i]? = its[i]? := by rw [List.getElem?_take, if_pos hi]
      rw [← h1, he, List.getElem?_map, List.getElem?_eq_getElem (by omega)]
      rfl
    have J0 : ∀ {i : Nat} {H' : Hp} {y : V}, i ≤ n → ys[i]? = some y → Same H0 H' → Bks C CB H' (ys.take i) (bs.take i) := fun {i H' y} hi hy e => ⟨by rw [List.length_take, List.length_take, al.1]; omega, fun j v b h1 h2 => by
      have hj : j < i := by
        have := (List.getElem?_eq_some_iff.mp h2).1
        rw [List.length_take] at this
        omega
      rw [List.getElem?_take, if_pos hj] at h1 h2
      have h3 := itn j (by omega)
      rw [h2] at h3
      have h4 := al.2 j v (some b) h1 h3
      cases h4 with
      | bk h => exact h.mono e⟩
    refine ⟨_, rfl, p, rfl, ⟨_, SqT.of ((Same.upd hL) _ _ hp)⟩, for_tup (K := Z.K) (a := p) (xs := ys) (fun i σ H' => ∃ o, σ = [some (.ref x), some (.ref p), some (.ref L), o] ∧ Same H0 H' ∧ H' p = some (.tup ys) ∧ H' x = some (.ins CM dx []) ∧ H' L = some (.lst (ys.take i)) ∧ i ≤ n) ⟨_, rfl, e0.trans (Same.upd hL), (Same.upd hL) _ _ hp, (Same.upd hL) _ _ hx, upd_same, Nat.zero_le _⟩ ?_ ?_ ?_⟩
    · rintro i σ H' hi ⟨o, rfl, e, h1, h2, h3, h4⟩
      exact SqT.of h1
    · rintro i y σ H2 hy ⟨o, rfl, e, h1, h2, h3, h4⟩
      have hi := (List.getElem?_eq_some_iff.mp hy).1
      have ni : (ys.take i).length = i := by rw [List.length_take]; omega
      have bt : bs.take n = bs := by rw [List.take_of_length_le (by omega)]
      have isb : ∀ {b : Bk}, BkAt C CB H2 y b → ∃ t, TyX Z.K H2 y t ∧ kitOne Z.K t (.ref CB) = some true := fun {b} hb => by
        obtain ⟨a, dx, d, rfl, ha, _⟩ := hb
        exact ⟨_, .base (.ins ha KB.cl J.ha J.hn J.htk J.hm), J.kCC⟩
      by_cases hin : i < n
      · obtain ⟨b, hb⟩ : ∃ b, bs[i]? = some b := ⟨bs[i]'(by omega), List.getElem?_eq_getElem _⟩
        have hv := itn i hin
        rw [hb] at hv
        have hbk : BkAt C CB H2 y b := by
          have := al.2 i y (some b) hy hv
          cases this with
          | bk h => exact h.mono e
        obtain ⟨t, ty, hk⟩ := isb hbk
        refine ⟨_, rfl, _, _, _, _, true, rfl, .own CB, ty, hk, _, rfl, iteF ?_⟩
        have hnb : b ∉ bs.take i := by
          intro z
          obtain ⟨j, hj, he⟩ := List.mem_take_iff_getElem.mp z
          have hj2 : bs[i]'(by omega) = b := by
            have := List.getElem?_eq_getElem (l := bs) (i := i) (by omega)
            rw [hb] at this
            exact (Option.some.inj this).symm
          exact List.pairwise_iff_getElem.mp nd j i (by omega) (by omega) (by omega) (he.trans hj2.symm)
        have hIn := (J0 h4 hy e).in_ hbk
        rw [decide_eq_false hnb] at hIn
        refine ⟨_, rfl, _, rfl, L, _, _, rfl, SqL.of h3, hIn, fun H3 e3 => ⟨_, rfl, iteF ?_⟩⟩
        refine ⟨_, rfl, L, _, rfl, .inl (SqL.of (e3 _ _ h3)), rfl, _, rfl, ?_⟩
        rw [decide_eq_false (show ¬ V.int (((ys.take i).length : Nat) : Int) = V.int 64 from fun z => by have := V.int.inj z; omega)]
        refine iteF ?_
        refine ⟨_, rfl, .inl ⟨rfl, _, SqL.of (e3 _ _ h3)⟩, _, rfl, L, _, _, rfl, rfl, e3 _ _ h3, by rw [ni]; exact Nat.lt_of_lt_of_le hi (Nat.le_trans hl (by decide)), ?_⟩
        have q0 : Same H0 (upd H3 L (.lst (ys.take i ++ [y]))) := fun c o hc => by
          rw [upd_ne (ne_of_none hc hL0)]
          exact e3 _ _ (e _ _ hc)
        have hLp : L ≠ p := fun z => by rw [z, h1] at h3; cases h3
        refine ⟨_, rfl, q0, by rw [upd_ne hLp.symm]; exact e3 _ _ h1, by rw [upd_ne hLx.symm]; exact e3 _ _ h2, ?_, by omega⟩
        rw [upd_same, ← take_more' hy]
      · obtain rfl : i = n := by omega
        rcases k with ⟨z, _⟩ | ⟨v, hv, bad, k⟩
        · have := al.1
          omega
        rw [hy] at hv
        cases hv
        have kn := fun H' (e' : Same H0 H') => (k.later e').now
        rcases bad with hb | ⟨b, hb, hbad⟩
        · have := al.2 i y none hy hb
          cases this with
          | odd h =>
            obtain ⟨t, ty, hk⟩ := h.mono e
            exact ⟨_, rfl, _, _, _, _, false, rfl, .own CB, ty, hk, _, rfl, iteT ⟨_, rfl, _, rfl, kn H2 e⟩⟩
        · have hbk : BkAt C CB H2 y b := by
            have := al.2 i y (some b) hy hb
            cases this with
            | bk h => exact h.mono e
          obtain ⟨t, ty, hk⟩ := isb hbk
          refine ⟨_, rfl, _, _, _, _, true, rfl, .own CB, ty, hk, _, rfl, iteF ?_⟩
          have hIn := (J0 h4 hy e).in_ hbk
          rw [bt] at hIn
          refine ⟨_, rfl, _, rfl, L, _, _, rfl, SqL.of h3, hIn, fun H3 e3 => ⟨_, rfl, ?_⟩⟩
          by_cases hm : b ∈ bs
          · rw [decide_eq_true hm]
            exact iteT ⟨_, rfl, _, rfl, kn H3 (e.trans e3)⟩
          · rw [decide_eq_false hm]
            refine iteF ⟨_, rfl, L, _, rfl, .inl (SqL.of (e3 _ _ h3)), rfl, _, rfl, ?_⟩
            have h64 : bs.length = 64 := hbad.resolve_left hm
            rw [decide_eq_true (show V.int (((ys.take i).length : Nat) : Int) = V.int 64 by rw [ni]; congr 1; omega)]
            exact iteT ⟨_, rfl, _, rfl, kn H3 (e.trans e3)⟩
    · rintro σ H2 ⟨o, rfl, e, h1, h2, h3, h4⟩
      rw [List.take_length] at h3
      have hnl : n = its.length := by
        have := al.1
        omega
      rcases k with ⟨_, k⟩ | ⟨v, hv, _⟩
      · refine ⟨_, rfl, _, rfl, x, CM, dx, _, rfl, h2, M.cl, M.nF, by decide, ?_⟩
        have es : Same H0 (upd H2 x (.ins CM dx [("own_books", .ref L)])) := fun c o hc => by
          rw [upd_ne (ne_of_none hc hn)]
          exact e _ _ hc
        refine k _ es ⟨x, dx, L, ys, rfl, upd_same, by rw [upd_ne hLx]; exact h3, ?_, nd, hb⟩
        refine Bks.mono es ⟨by rw [al.1]; omega, fun j v b g1 g2 => ?_⟩
        have hj := (List.getElem?_eq_some_iff.mp g2).1
        have g3 := itn j (by omega)
        rw [g2] at g3
        have := al.2 j v (some b) g1 g3
        cases this with
        | bk h => exact h
      · have := (List.getElem?_eq_some_iff.mp hv).1
        have := al.1
        omega
/-- a new menu of good items -/
theorem mk_menu {K : Frag} {C CB CM CX : Addr} {x dx : Addr} {H : Hp} {ys : List V} {bs : List Bk} {Q : VK} {E : XK} (hx : H x = none) (hdx : H dx = none) (hne : dx ≠ x) (hb : Bks C CB H ys bs) (nd : bs.Nodup) (hl : bs.length ≤ 64) (k : ∀ H', Same H H' → MnAt C CB CM H' (.ref x) bs → Q .non H') :
    spMenu K C CB CM CX (.ref x :: ys) (upd (upd H dx (.own x)) x (.ins CM dx [])) Q E := by
  have hx' : upd H dx (.own x) x = none := by rw [upd_ne hne.symm]; exact hx
  refine ⟨x, dx, ys, bs.map some, H, rfl, upd_same, (Same.upd hdx).trans (Same.upd hx'), hx, ⟨by rw [List.length_map]; exact hb.1, fun i v o h1 h2 => ?_⟩, by rw [hb.1]; omega, .inl ⟨bs, rfl, nd, hl, k⟩⟩
  rw [List.getElem?_map] at h2
  cases hc : bs[i]? with
  | none => rw [hc] at h2; cases h2
  | some b =>
    rw [hc] at h2
    cases h2
    exact .bk (hb.2 i v b h1 hc)
/-- the first bad item is told -/
theorem mk_menuX {K : Frag} {C CB CM CX : Addr} {x dx : Addr} {H : Hp} {ys : List V} {its : List (Option Bk)} {i : Nat} {v : V} {bs : List Bk} {Q : VK} {E : XK} (hx : H x = none) (hdx : H dx = none) (hne : dx ≠ x) (al : Al (ItB K C CB H) ys its) (hl : ys.length ≤ 500) (he : its.take i = bs.map some) (nd : bs.Nodup) (hb : bs.length ≤ 64) (hv : ys[i]? = some v) (bad : MnBad its[i]? bs) (k : Rz CX "value" v H E) :
    spMenu K C CB CM CX (.ref x :: ys) (upd (upd H dx (.own x)) x (.ins CM dx [])) Q E := by
  have hx' : upd H dx (.own x) x = none := by rw [upd_ne hne.symm]; exact hx
  exact ⟨x, dx, ys, its, H, rfl, upd_same, (Same.upd hdx).trans (Same.upd hx'), hx, al, hl, .inr ⟨i, v, bs, he, nd, hb, hv, bad, k⟩⟩
end
end Ps

/-! y in x, x[y], x[y] = v of an instance with own __contains__, __getitem__, __setitem__. -/
namespace Ps
open PySem PySem.Spec PyProof.Rows PySem.W L2

theorem Passes.at {CX : CXT} {X : Cx} {E : XK} (h : Passes CX X E) (σ : L2.St) : PassesAt CX X σ E := fun pins H s e s' I c => h pins σ H s e s' I c
section
variable {Z : Cz} {X : Cx} {CX : CXT} {k : Nat} {C f : Addr} {fd : FuncData} {ps : List Str} {sp : Sp} {E : L2.St → XK}
theorem run_fnS0 {pins : List (Addr × Obj)} {σ : L2.St} {H : Hp} {s : Shared} {Q : VK} {us : List Value} {vs : List V} {E : XK} (F : FnOk X.prog X.w X.K X.mg X.base CX k f fd ps sp) (hr : Room k X.A) (hb : Binds X.K fd ps []) (hx : PassesAt CX X σ E)
    (I : L2.Inv X pins σ H s) (r : Vals vs us) (h : sp vs H Q E) : wpAny (model X.prog X.w) X.A (call (.ref f) us) (EP X pins σ Q) X.xe s := by
  have hl : (us ++ []).length = ps.length := by rw [List.append_nil, ← r.length]; exact F.len _ _ _ _ h
  have hb' := hb s us I.kIn hl
  rw [List.append_nil] at hb'
  refine wpAny_call (codeAny_mono (F.run X.A X.stack s H ⟨us, []⟩ us vs Q E hr I.env0 hb' r h) fun r s' hq => ?_)
  cases r with
  | error e => exact hx pins H s e s' I hq
  | ok fl =>
    cases fl with
    | ret u => exact I.after hq
    | next => exact False.elim hq
    | brk => exact False.elim hq
    | cont => exact False.elim hq
theorem run_fnS1 {pins : List (Addr × Obj)} {σ : L2.St} {H : Hp} {s : Shared} {Q : VK} {us : List Value} {vs : List V} {E : XK} (F : FnOk X.prog X.w X.K X.mg X.base CX k f fd ps sp) (hr : Room (k + 1) X.A) (hb : Binds X.K fd ps []) (hx : PassesAt CX X σ E)
    (I : L2.Inv X pins σ H s) (r : Vals vs us) (h : sp vs H Q E) : wpAny (model X.prog X.w) X.A.in1 (call (.ref f) us) (EP X pins σ Q) X.xe s := by
  have hl : (us ++ []).length = ps.length := by rw [List.append_nil, ← r.length]; exact F.len _ _ _ _ h
  have hb' := hb s us I.kIn hl
  rw [List.append_nil] at hb'
  refine wpAny_call (codeAny_mono (F.run X.A.in1 X.stack s H ⟨us, []⟩ us vs Q E hr.in1 I.env0.in1 hb' r h) fun r s' hq => ?_)
  cases r with
  | error e => exact hx pins H s e s' I hq
  | ok fl =>
    cases fl with
    | ret u => exact I.after hq
    | next => exact False.elim hq
    | brk => exact False.elim hq
    | cont => exact False.elim hq
def rInO (C : Addr) (sp : Sp) : R2 := fun y x H Q => InsC C H x ∧ sp [x, y] H (fun v H' => ∃ b, v = .bl b ∧ Q (.bl b) H') E0
def rNotInO (C : Addr) (sp : Sp) : R2 := fun y x H Q => InsC C H x ∧ sp [x, y] H (fun v H' => ∃ b, v = .bl b ∧ Q (.bl (!b)) H') E0
theorem op_inO (c : CalS Z CX0 k C "__contains__" ps sp) (hr : Room k X.A) (z : InZ Z X := by exact ⟨rfl, rfl, rfl, rfl, rfl⟩) : OpR X (compareOp .In) (rInO C sp) := by
  obtain ⟨f, fd, G, O, hb⟩ := c
  rw [← z.K] at O hb
  intro pins s σ H y x u v Q I ry rx h
  obtain ⟨⟨a, dx, fs, rfl, ha⟩, h⟩ := h
  cases (show v = Value.ref a from rx)
  obtain ⟨mA, J, _⟩ := ins_get I.hok ha
  obtain ⟨od, J, _⟩ := J.look
  obtain ⟨m, hF⟩ := I.fr
  refine in_K hF I.ok.mod.kin J O.fn O.isf (wpAny_mono (run_fnS0 (us := [.ref a, u]) (vs := [.ref a, y]) (z.ok G) hr hb (passAt0 σ) I (.cons rfl (.cons ry .nil)) h) (fun r s' q => ?_) fun _ _ z => z)
  obtain ⟨w, H1, I1, rw1, b, rfl, q⟩ := q
  cases (show r = Value.bool b from rw1)
  exact wpAny_truthy_bool ⟨.bl b, H1, I1, rfl, q⟩
theorem op_notInO (c : CalS Z CX0 k C "__contains__" ps sp) (hr : Room k X.A) (z : InZ Z X := by exact ⟨rfl, rfl, rfl, rfl, rfl⟩) : OpR X (compareOp .NotIn) (rNotInO C sp) := by
  obtain ⟨f, fd, G, O, hb⟩ := c
  rw [← z.K] at O hb
  intro pins s σ H y x u v Q I ry rx h
  obtain ⟨⟨a, dx, fs, rfl, ha⟩, h⟩ := h
  cases (show v = Value.ref a from rx)
  obtain ⟨mA, J, _⟩ := ins_get I.hok ha
  obtain ⟨od, J, _⟩ := J.look
  obtain ⟨m, hF⟩ := I.fr
  refine notIn_K hF I.ok.mod.kin J O.fn O.isf (wpAny_mono (run_fnS0 (us := [.ref a, u]) (vs := [.ref a, y]) (z.ok G) hr hb (passAt0 σ) I (.cons rfl (.cons ry .nil)) h) (fun r s' q => ?_) fun _ _ z => z)
  obtain ⟨w, H1, I1, rw1, b, rfl, q⟩ := q
  cases (show r = Value.bool b from rw1)
  exact wpAny_truthy_bool ⟨.bl (!b), H1, I1, rfl, q⟩
/-- x[y] -/
def tIxO (C : Addr) (sp : Sp) (E : L2.St → XK) (ta tb : TE) : TE := fun σ H Q => ta σ H fun x H1 => tb σ H1 fun y H2 => InsC C H2 x ∧ sp [x, y] H2 Q (E σ)
/-- the class's own __getitem__ -/
def CalI (Z : Cz) (CX : CXT) (k : Nat) (C : Addr) (ps : List Str) (sp : Sp) : Prop := ∃ f fd, Z.ok CX k f fd ps sp ∧ OwnOp Z.K C f "__getitem__" ∧ fnIn Z.K f = true ∧ Binds Z.K fd ps []
theorem pe_ixO {a b : Expr} {ta tb : TE} {pos : Pos} (c : CalI Z CX k C ps sp) (hr : Room (k + 1) X.A) (hx : ∀ σ, PassesAt CX X σ (E σ)) (ha : PE X a ta) (hb : PE X b tb) (z : InZ Z X := by exact ⟨rfl, rfl, rfl, rfl, rfl⟩)
    (hsl : ∀ o i, subscripted b true o i = runValue (.builtin "lifetime.subscript" ⟨[o, i], []⟩) := by intro _ _; rfl) : PE X (.Subscript a b pos) (tIxO C sp E ta tb) := by
  obtain ⟨f, fd, G, O, hf, hbd⟩ := c
  rw [← z.K] at O hbd hf
  refine ⟨fun pins s σ H Q I h => ?_⟩
  refine Subscript_ (binT ha hb I h fun v u s2 x y H2 I2 rx ry q => ?_)
  obtain ⟨⟨ad, dx, fs, rfl, had⟩, q⟩ := q
  cases (show v = Value.ref ad from rx)
  obtain ⟨mA, J, _⟩ := ins_get I2.hok had
  obtain ⟨od, J, _⟩ := J.look
  obtain ⟨m, hF⟩ := I2.fr
  exact sub_K hF I2.ok.mod.kin J O.fn hf O.isf (run_fnS1 (us := [.ref ad, u]) (vs := [.ref ad, y]) (z.ok G) hr hbd (hx σ) I2 (.cons rfl (.cons ry .nil)) q) (hsl _ _)
theorem pe_ixP {a b : Expr} {ta tb : TE} {pos : Pos} {E : XK} (c : CalI Z CX k C ps sp) (hr : Room (k + 1) X.A) (hx : Passes CX X E) (ha : PE X a ta) (hb : PE X b tb) (z : InZ Z X := by exact ⟨rfl, rfl, rfl, rfl, rfl⟩)
    (hsl : ∀ o i, subscripted b true o i = runValue (.builtin "lifetime.subscript" ⟨[o, i], []⟩) := by intro _ _; rfl) : PE X (.Subscript a b pos) (tIxO C sp (fun _ => E) ta tb) := pe_ixO c hr (fun σ => Passes.at hx σ) ha hb z hsl
/-- x[y] = v: nothing is raised -/
def rSetO (C : Addr) (sp : Sp) : V → V → V → Hp → (Hp → Prop) → Prop := fun o i v H Q => InsC C H o ∧ sp [o, i, v] H (fun _ H' => Q H') E0
theorem set_own (c : CalS Z CX0 k C "__setitem__" ps sp) (hq : noSeq Z.K C = true) (hr : Room k X.A) (z : InZ Z X := by exact ⟨rfl, rfl, rfl, rfl, rfl⟩) : PSet X (rSetO C sp) := by
  obtain ⟨f, fd, G, O, hbd⟩ := c
  rw [← z.K] at O hbd hq
  intro pins s σ H o i v ov iv u Q I ro ri rv h
  obtain ⟨⟨a, dx, fs, rfl, ha⟩, h⟩ := h
  cases (show ov = Value.ref a from ro)
  obtain ⟨mA, J, _⟩ := ins_get I.hok ha
  obtain ⟨od, J, _⟩ := J.look
  obtain ⟨m, hF⟩ := I.fr
  refine ksp_setItem hF I.ok.mod.kin J hq O.fn O.isf (wpAny_mono (run_fnS0 (us := [.ref a, iv, u]) (vs := [.ref a, i, v]) (z.ok G) hr hbd (passAt0 σ) I (.cons rfl (.cons ri (.cons rv .nil))) h) (fun r s' q => ?_) fun _ _ z => z)
  obtain ⟨w, H1, I1, rw1, q⟩ := q
  exact ⟨H1, I1, q⟩
end
end Ps

/-! Menus behind the top. -/
namespace Ps
open PySem PySem.Spec PyProof.Rows PySem.W L2 He

theorem rnoB_ok {K : Frag} {C : Addr} {nm : String} (c : rnoB K C nm = true) : Rfl K C nm := ⟨⟨_, eqO_ok c, .inl rfl⟩⟩
theorem kitsL_ok {K : Frag} {x : Str} {Ts : List String} (c : kitsL K x Ts = true) : ∀ T ∈ Ts, kitOne K (.type T) (.ref (ga K x)) = some false := fun T h => of_decide_eq_true (List.all_eq_true.mp c T h)
theorem mnB_ok {K : Frag} {h : Heap} {mg : Str → Option Value} {P : Program} {w : World} {base : Heap} (X : K.In h) (G : h.Ns mainGlobals mg) (c : mnB K = true) : MnT ⟨P, w, K, mg, base⟩ (ga K "Menu") ∧ Mk K (ga K "Menu") (ma K (ga K "Menu") "__init__") := by
  obtain ⟨c1, c⟩ := ba c
  obtain ⟨c2, c⟩ := ba c
  obtain ⟨c3, c⟩ := ba c
  obtain ⟨c4, c⟩ := ba c
  obtain ⟨c5, c⟩ := ba c
  obtain ⟨c6, c⟩ := ba c
  obtain ⟨c7, c8⟩ := ba c
  obtain ⟨d1, d⟩ := ba c5
  obtain ⟨d2, d⟩ := ba d
  obtain ⟨d3, d4⟩ := ba d
  have f := fun {x : Str} (hx : x ∈ (["all", "len", "isinstance"] : List Str)) => freeB_ok X G c8 hx
  exact ⟨⟨cls_ok c1, noat_ok c3, glo_ok X G c4, eqO_ok d1, eqO_ok d2, of_decide_eq_true d3, of_decide_eq_true d4, of_decide_eq_true c6, intB_ok X G c7, f (by simp), f (by simp), f (by simp)⟩, mkr_ok c2⟩
theorem GotM.calI' {Z : Cz} {CX : CXT} {k : Nat} {C : Addr} {qual : Str} {st : Stmt} {f : Addr} {fd : FuncData} {ps : List Str} {sp : Sp} (g : GotM Z.K C "__getitem__" qual st f fd) (G : Z.ok CX k f fd ps sp) (b : Binds Z.K fd ps []) : CalI Z CX k C ps sp := by
  refine ⟨f, fd, G, g.o, ?_, b⟩
  obtain ⟨oc, od, kV, doc, pm, an, cdv, ct, osl, rfl, lk, hcd⟩ := g.F.ex
  unfold fnIn
  rw [lk]
end Ps

/-! A book compared with itself, while an error is handled. -/
namespace Ps
open PySem PySem.Spec PyProof.Rows PySem.W L2

def rSelfD : R2 := fun x y H Q => ∃ a ks, x = .ref a ∧ y = .ref a ∧ H a = some (.dK ks) ∧ ∀ H', Same H H' → Q (.bl true) H'
theorem op_selfD {X : Cx} (hu : X.A.units < cLine) : OpR X (compareOp .Eq) rSelfD := by
  intro pins s σ H x y v u Q I rx ry d
  obtain ⟨a, ks, rfl, rfl, ha, q⟩ := d
  cases rx
  cases ry
  obtain ⟨_, ya, va, ra, da⟩ := (show ObjOk X.prog X.w H s.heap a (.dK ks) from I.hok a _ ha)
  have hnd : (va.map (·.1)).Nodup := by obtain ⟨_, _, _, _, _, _, _, _, h⟩ := da; exact h
  show wpAny _ _ (compareOp .Eq _ _) _ _ _
  refine PySem.W.keq_eq (knd := mixKind X.prog X.w) (r := true) ya ya da da hu (fun _ => hits_self fun p hp => ?_) ⟨.bl true, H, I, (by rw [show (va.length == va.length && true) = true by simp]; rfl), q H (.refl _)⟩
  obtain ⟨i, hi, he⟩ := List.mem_iff_getElem.mp hp
  exact valueAt_at hnd (by rw [List.getElem?_eq_getElem hi, he])
def spBkSelf (C CB : Addr) : Sp := fun vs H Q _ => ∃ x b, vs = [x, x] ∧ BkAt C CB H x b ∧ ∀ H', Same H H' → Q (.bl true) H'
section
variable {Z : Cz} {f C CB : Addr} {fd : FuncData}
theorem ok_BkEqH (F : Fun Z.K "__eq__" "Book.__eq__" s_Book_dd_eq f fd) (K : BkC Z CB) (J : BkI Z CB) : L2H.FnH Z.P Z.w Z.K Z.mg Z.base CX0 1 f fd ["self", "other"] (spBkSelf C CB) := by
  refine Fun.okH F sc_Book_dd_eq (fun vs H Q E h => ?_) (fun cdv A outer s H vs Q E p hot hr h => ?_)
  · obtain ⟨x, b, rfl, _⟩ := h
    rfl
  · obtain ⟨x, b, rfl, hx, k⟩ := h
    have hu : (A.deeper (envOfC "Book.__eq__" (defScope s_Book_dd_eq) s.heap.objs.size f cdv)).units < cLine := by have := hr.un; omega
    refine ⟨_, (pss_one (ps_ret (pe_and (pe_callB call_isi (by rfl) J.isi (by decide +kernel) (pa_cons (pv 1) (pa_cons (pe_glob (v := .ref CB) rfl K.mg rfl) pa_nil))) (pe_one (pe_cmpR (op_selfD hu) (pe_fld (pv 0) rfl) (pe_fld (pv 1) rfl) (nomark _)))))), ?_⟩
    obtain ⟨a, dx, d, rfl, ha, hs, ho⟩ := hx
    obtain ⟨vo, vf, va, hd, _⟩ := hs
    refine ⟨_, rfl, _, _, _, _, true, rfl, .own CB, .base (.ins ha K.cl J.ha J.hn J.htk J.hm), J.kCC, _, rfl, iteT ?_⟩
    exact ⟨_, rfl, a, CB, dx, _, _, rfl, ha, K.cl, K.nS, rfl, _, rfl, a, CB, dx, _, _, rfl, ha, K.cl, K.nS, rfl, d, _, rfl, rfl, hd, k⟩
end
end Ps

/-! The laws' own plans of books: drawn, made. -/
namespace Ps
open PySem PySem.Spec PyProof.Rows PySem.W L2

inductive PAf where
  | ever
  | doubt (q : Int × Int)
  | look (i : Int)
  deriving DecidableEq
structure Plan where
  tries : Option Int
  told : Int
  factor : Int × Int
  equal : Bool
  sliding : Bool
  after : PAf
  keep : Bool
  deriving DecidableEq
def factors : List (Int × Int) := [(1, 1), (0, 1), (2, 1), (1, 2)]
def doubts : List (Int × Int) := [(1, 1), (2, 1), (1, 2), (10, 1), (3, 2)]
def tolds : List Int := [6, 9, 12, 18, 3, 15, 24]
def PAfOk : PAf → Prop
  | .ever => True
  | .doubt q => q ∈ doubts
  | .look i => 1 ≤ i ∧ i ≤ 9
structure PlOk (p : Plan) : Prop where
  tr : ∀ i, p.tries = some i → 0 ≤ i ∧ i ≤ 6
  tl : p.told ∈ tolds
  fc : p.factor ∈ factors
  af : PAfOk p.after
def afOf : PAf → Af
  | .ever => .ever
  | .doubt q => .doubt (low q.1 q.2)
  | .look i => .look i
def bkOfPl (p : Plan) : Bk := ⟨p.tries, low p.told 6, low p.factor.1 p.factor.2, p.equal, p.sliding, afOf p.after, p.keep⟩
theorem sz_small {a b : Int} (hb : b ≠ 0) (h1 : a.natAbs < 100) (h2 : b.natAbs < 100) : Sz 100 (low a b) := Sz.of_low hb (lt_up (m := 10) (by omega) (by decide)) (lt_up (m := 10) (by omega) (by decide))
theorem doubt_ok {q : Int × Int} (h : q ∈ doubts) : q.2 ≠ 0 ∧ q.1.natAbs < 100 ∧ q.2.natAbs < 100 ∧ 0 < (low q.1 q.2).1 := by
  simp only [doubts, List.mem_cons, List.not_mem_nil, or_false] at h
  rcases h with rfl | rfl | rfl | rfl | rfl <;> decide +kernel
theorem factor_ok {q : Int × Int} (h : q ∈ factors) : q.2 ≠ 0 ∧ q.1.natAbs < 100 ∧ q.2.natAbs < 100 ∧ 0 ≤ (low q.1 q.2).1 := by
  simp only [factors, List.mem_cons, List.not_mem_nil, or_false] at h
  rcases h with rfl | rfl | rfl | rfl <;> decide +kernel
theorem told_ok {n : Int} (h : n ∈ tolds) : n.natAbs < 100 ∧ 0 < (low n 6).1 := by
  simp only [tolds, List.mem_cons, List.not_mem_nil, or_false] at h
  rcases h with rfl | rfl | rfl | rfl | rfl | rfl | rfl <;> decide +kernel
theorem PAfOk.of {a : PAf} (h : PAfOk a) : AfOk (afOf a) := by
  cases a with
  | ever => trivial
  | doubt q =>
    obtain ⟨h1, h2, h3, h4⟩ := doubt_ok h
    exact ⟨Lw.of h1, sz_small h1 h2 h3, h4⟩
  | look i => exact h
theorem PlOk.bk {p : Plan} (h : PlOk p) : BkOk (bkOfPl p) := by
  obtain ⟨f1, f2, f3, f4⟩ := factor_ok h.fc
  obtain ⟨t1, t2⟩ := told_ok h.tl
  exact ⟨h.tr, Lw.of (by decide), sz_small (by decide) t1 (by decide), t2, Lw.of f1, sz_small f1 f2 f3, f4, h.af.of⟩
def PAfV (H : Hp) (v : V) : PAf → Prop
  | .ever => ∃ t, v = .ref t ∧ H t = some (.tup [.str "ever"])
  | .doubt q => ∃ t u, v = .ref t ∧ H t = some (.tup [.str "doubt", .ref u]) ∧ H u = some (.tup [.int q.1, .int q.2])
  | .look i => ∃ t, v = .ref t ∧ H t = some (.tup [.str "look", .int i])
/-- tuples stay -/
def Tp (H H' : Hp) : Prop := ∀ a xs, H a = some (.tup xs) → H' a = some (.tup xs)
theorem Tp.of {H H' : Hp} (e : Same H H') : Tp H H' := fun a xs h => e a _ h
theorem Tp.trans {H H1 H2 : Hp} (e : Tp H H1) (e' : Tp H1 H2) : Tp H H2 := fun a xs h => e' a xs (e a xs h)
theorem Tp.keep {H H' : Hp} {p : Addr} {o : HO} (k : Keep p H H') (hp : H p = some o) (hn : ∀ xs, o ≠ .tup xs) : Tp H H' := fun a xs h => k a (fun z => by rw [z, hp] at h; exact hn _ (Option.some.inj h)) _ h
theorem Tp.upd {H : Hp} {p : Addr} {o u : HO} (hp : H p = some o) (hn : ∀ xs, o ≠ .tup xs) : Tp H (upd H p u) := fun a xs h => by rw [upd_ne (fun z => by rw [z, hp] at h; exact hn _ (Option.some.inj h))]; exact h
theorem PAfV.mono {H H' : Hp} {v : V} {a : PAf} (e : Tp H H') (h : PAfV H v a) : PAfV H' v a := by
  cases a with
  | ever => obtain ⟨t, h1, h2⟩ := h; exact ⟨t, h1, e _ _ h2⟩
  | doubt q => obtain ⟨t, u, h1, h2, h3⟩ := h; exact ⟨t, u, h1, e _ _ h2, e _ _ h3⟩
  | look i => obtain ⟨t, h1, h2⟩ := h; exact ⟨t, h1, e _ _ h2⟩
/-- the plan's dict -/
def plL (p : Plan) (vf va : V) : List (Key × V) := stL (trV p.tries) (.int p.told) vf (.bl p.equal) (.bl p.sliding) va (.bl p.keep)
def FcV (H : Hp) (v : V) (q : Int × Int) : Prop := ∃ t, v = .ref t ∧ H t = some (.tup [.int q.1, .int q.2])
theorem FcV.mono {H H' : Hp} {v : V} {q : Int × Int} (e : Tp H H') (h : FcV H v q) : FcV H' v q := by obtain ⟨t, h1, h2⟩ := h; exact ⟨t, h1, e _ _ h2⟩
structure PlAt (H : Hp) (a : Addr) (p : Plan) (vf va : V) : Prop where
  d : H a = some (.dK (plL p vf va))
  f : FcV H vf p.factor
  a : PAfV H va p.after
theorem PlAt.mono {H H' : Hp} {a : Addr} {p : Plan} {vf va : V} (e : Same H H') (h : PlAt H a p vf va) : PlAt H' a p vf va := ⟨e _ _ h.d, h.f.mono (Tp.of e), h.a.mono (Tp.of e)⟩
theorem PlAt.keep {H H' : Hp} {a x : Addr} {p : Plan} {vf va : V} {o : List V} (k : Keep x H H') (hx : H x = some (.lst o)) (h : PlAt H a p vf va) : PlAt H' a p vf va :=
  ⟨k a (fun z => by have := h.d; rw [z, hx] at this; cases this) _ h.d, h.f.mono (Tp.keep k hx (fun _ z => nomatch z)), h.a.mono (Tp.keep k hx (fun _ z => nomatch z))⟩
def spLAfter : Sp := fun vs H Q _ => ∃ (p q : Addr) (ms : List Int) (i : Nat), vs = [.ref p] ∧ Pool H p q ms i ∧ i ≤ 1000 ∧ ∀ v H' a j, Keep p H H' → Pool H' p q ms j → j ≤ i + 2 → PAfV H' v a → PAfOk a → Q v H'
theorem pick5 {H : Hp} {t1 t2 t3 t4 t5 : Addr} {r : Int} (r0 : 0 ≤ r) (r1 : r < 5) (h1 : H t1 = some (.tup [.int 1, .int 1])) (h2 : H t2 = some (.tup [.int 2, .int 1])) (h3 : H t3 = some (.tup [.int 1, .int 2])) (h4 : H t4 = some (.tup [.int 10, .int 1])) (h5 : H t5 = some (.tup [.int 3, .int 2])) :
    ∃ u q, atI [V.ref t1, V.ref t2, V.ref t3, V.ref t4, V.ref t5] r = some (.ref u) ∧ H u = some (.tup [.int q.1, .int q.2]) ∧ q ∈ doubts := by
  rcases (show r = 0 ∨ r = 1 ∨ r = 2 ∨ r = 3 ∨ r = 4 by omega) with rfl | rfl | rfl | rfl | rfl
  · exact ⟨t1, (1, 1), rfl, h1, by decide⟩
  · exact ⟨t2, (2, 1), rfl, h2, by decide⟩
  · exact ⟨t3, (1, 2), rfl, h3, by decide⟩
  · exact ⟨t4, (10, 1), rfl, h4, by decide⟩
  · exact ⟨t5, (3, 2), rfl, h5, by decide⟩
theorem pick4 {H : Hp} {t1 t2 t3 t4 : Addr} {r : Int} (r0 : 0 ≤ r) (r1 : r < 4) (h1 : H t1 = some (.tup [.int 1, .int 1])) (h2 : H t2 = some (.tup [.int 0, .int 1])) (h3 : H t3 = some (.tup [.int 2, .int 1])) (h4 : H t4 = some (.tup [.int 1, .int 2])) :
    ∃ u q, atI [V.ref t1, V.ref t2, V.ref t3, V.ref t4] r = some (.ref u) ∧ H u = some (.tup [.int q.1, .int q.2]) ∧ q ∈ factors := by
  rcases (show r = 0 ∨ r = 1 ∨ r = 2 ∨ r = 3 by omega) with rfl | rfl | rfl | rfl
  · exact ⟨t1, (1, 1), rfl, h1, by decide⟩
  · exact ⟨t2, (0, 1), rfl, h2, by decide⟩
  · exact ⟨t3, (2, 1), rfl, h3, by decide⟩
  · exact ⟨t4, (1, 2), rfl, h4, by decide⟩
theorem pick_told {r : Int} (r0 : 0 ≤ r) (r1 : r < 7) : ∃ n, atI [V.int 6, .int 9, .int 12, .int 18, .int 3, .int 15, .int 24] r = some (.int n) ∧ n ∈ tolds := by
  rcases (show r = 0 ∨ r = 1 ∨ r = 2 ∨ r = 3 ∨ r = 4 ∨ r = 5 ∨ r = 6 by omega) with rfl | rfl | rfl | rfl | rfl | rfl | rfl <;> exact ⟨_, rfl, by decide⟩
theorem pick_try {r : Int} (r0 : 0 ≤ r) (r1 : r < 7) : ∃ o : Option Int, atI [V.non, .int 0, .int 1, .int 2, .int 3, .int 2, .int 3] r = some (trV o) ∧ ∀ i, o = some i → 0 ≤ i ∧ i ≤ 3 := by
  rcases (show r = 0 ∨ r = 1 ∨ r = 2 ∨ r = 3 ∨ r = 4 ∨ r = 5 ∨ r = 6 by omega) with rfl | rfl | rfl | rfl | rfl | rfl | rfl
  · exact ⟨none, rfl, by intro i z; cases z⟩
  · exact ⟨some 0, rfl, by intro i z; cases z; decide⟩
  · exact ⟨some 1, rfl, by intro i z; cases z; decide⟩
  · exact ⟨some 2, rfl, by intro i z; cases z; decide⟩
  · exact ⟨some 3, rfl, by intro i z; cases z; decide⟩
  · exact ⟨some 2, rfl, by intro i z; cases z; decide⟩
  · exact ⟨some 3, rfl, by intro i z; cases z; decide⟩
theorem Pool.mono {H H' : Hp} {p q : Addr} {ms : List Int} {i : Nat} (e : Same H H') (h : Pool H p q ms i) : Pool H' p q ms i := ⟨e _ _ h.at_, e _ _ h.nums, h.len, h.few⟩
section
variable {Z : Cz} {f C CB : Addr} {fd : FuncData}
abbrev CDraw (Z : Cz) : Prop := Cal Z CX0 1 "_law_draw" ["_law_pool_here", "_law_many"] [] spDraw
theorem ok_lafter (F : Fun Z.K "_law_after" "_law_after" s_lw_after f fd) (c_lw_draw : CDraw Z) : Z.ok CX0 2 f fd ["_law_pool_here"] spLAfter := by
  refine F.ok sc_lw_after (fun vs H Q E h => ?_) (fun cdv A outer s H vs Q E hr h => ?_)
  · obtain ⟨p, q, ms, i, rfl, _⟩ := h
    rfl
  · obtain ⟨p, q, ms, i, rfl, P, hi, k⟩ := h
    refine ⟨_, (pss_cons (ps_set (i := 1) sc_lw_after.nd rfl (Or.inl rfl) (pe_cal c_lw_draw (hr.mono (by decide)) (by rfl) pass0 (pa_cons (pv 0) (pa_cons pe_int pa_nil))))
      (pss_cons (ps_if (pt_cmpR op_lt (pv 1) pe_int (nomark _))
      (pss_one (ps_ret (pe_tup (pa_cons pe_str pa_nil))))
      pss_nil)
      (pss_cons (ps_if (pt_cmpR op_lt (pv 1) pe_int (nomark _))
      (pss_one (ps_ret (pe_tup (pa_cons pe_str (pa_cons (pe_ix ix_list (pe_lst (pa_cons (pe_tup (pa_cons pe_int (pa_cons pe_int pa_nil))) (pa_cons (pe_tup (pa_cons pe_int (pa_cons pe_int pa_nil))) (pa_cons (pe_tup (pa_cons pe_int (pa_cons pe_int pa_nil))) (pa_cons (pe_tup (pa_cons pe_int (pa_cons pe_int pa_nil))) (pa_cons (pe_tup (pa_cons pe_int (pa_cons pe_int pa_nil))) pa_nil)))))) (pe_cal c_lw_draw (hr.mono (by decide)) (by rfl) pass0 (pa_cons (pv 0) (pa_cons pe_int pa_nil))) (fun _ _ => rfl)) pa_nil)))))
      pss_nil)
      (pss_one (ps_ret (pe_tup (pa_cons pe_str (pa_cons (pe_op op_add pe_int (pe_cal c_lw_draw (hr.mono (by decide)) (by rfl) pass0 (pa_cons (pv 0) (pa_cons pe_int pa_nil)))) pa_nil)))))))), ?_⟩
    refine ⟨_, rfl, p, q, ms, i, 6, rfl, P, by decide, by omega, fun r H1 r0 r1 e1 P1 => ?_⟩
    have k1 : Keep p H H1 := Keep.of_eq e1
    refine ⟨_, rfl, _, _, rfl, rfl, _, rfl, iteD (fun _ => ?_) (fun _ => ?_)⟩
    · refine ⟨(by show 1 ≤ sizeLine; decide), fun t ht => ?_⟩
      exact k _ _ .ever (i + 1) (k1.trans (Keep.of_same (Same.upd ht))) (P1.mono (Same.upd ht)) (by omega) ⟨t, rfl, upd_same⟩ trivial
    refine ⟨_, rfl, _, _, rfl, rfl, _, rfl, iteD (fun _ => ?_) (fun _ => ?_)⟩
    · refine ⟨(by show 2 ≤ sizeLine; decide), fun t1 h1 => ?_⟩
      refine ⟨(by show 2 ≤ sizeLine; decide), fun t2 h2 => ?_⟩
      refine ⟨(by show 2 ≤ sizeLine; decide), fun t3 h3 => ?_⟩
      refine ⟨(by show 2 ≤ sizeLine; decide), fun t4 h4 => ?_⟩
      refine ⟨(by show 2 ≤ sizeLine; decide), fun t5 h5 => ?_⟩
      refine ⟨(by show 5 ≤ sizeLine; decide), fun L hL => ?_⟩
      have s6 := Same.upd (o := .lst [.ref t1, .ref t2, .ref t3, .ref t4, .ref t5]) hL
      have s5 := (Same.upd (o := .tup [.int 3, .int 2]) h5).trans s6
      have s4 := (Same.upd (o := .tup [.int 10, .int 1]) h4).trans s5
      have s3 := (Same.upd (o := .tup [.int 1, .int 2]) h3).trans s4
      have s2 := (Same.upd (o := .tup [.int 2, .int 1]) h2).trans s3
      have s1 := (Same.upd (o := .tup [.int 1, .int 1]) h1).trans s2
      have g1 := s2 t1 _ upd_same
      have g2 := s3 t2 _ upd_same
      have g3 := s4 t3 _ upd_same
      have g4 := s5 t4 _ upd_same
      have g5 := s6 t5 _ upd_same
      have gL : (upd (upd (upd (upd (upd (upd H1 t1 (.tup [.int 1, .int 1])) t2 (.tup [.int 2, .int 1])) t3 (.tup [.int 1, .int 2])) t4 (.tup [.int 10, .int 1])) t5 (.tup [.int 3, .int 2])) L (.lst [.ref t1, .ref t2, .ref t3, .ref t4, .ref t5])) L = _ := upd_same
      clear s2 s3 s4 s5 s6
      generalize (upd (upd (upd (upd (upd (upd H1 t1 (.tup [.int 1, .int 1])) t2 (.tup [.int 2, .int 1])) t3 (.tup [.int 1, .int 2])) t4 (.tup [.int 10, .int 1])) t5 (.tup [.int 3, .int 2])) L (.lst [.ref t1, .ref t2, .ref t3, .ref t4, .ref t5])) = H2 at *
      have P2 := P1.mono s1
      refine ⟨_, rfl, p, q, ms, i + 1, 5, rfl, P2, by decide, by omega, fun r2 H3 a0 a1 e3 P3 => ?_⟩
      have k3 : Keep p H2 H3 := Keep.of_eq e3
      have tp : Tp H2 H3 := Tp.keep k3 P2.at_ (fun _ z => nomatch z)
      obtain ⟨u, d, hu, hd, hm⟩ := pick5 (H := H3) a0 a1 (tp _ _ g1) (tp _ _ g2) (tp _ _ g3) (tp _ _ g4) (tp _ _ g5)
      have hLp : L ≠ p := fun z => by
        rw [z] at hL
        have := (Same.upd (o := .tup [.int 3, .int 2]) h5) _ _ ((Same.upd (o := .tup [.int 10, .int 1]) h4) _ _ ((Same.upd (o := .tup [.int 1, .int 2]) h3) _ _ ((Same.upd (o := .tup [.int 2, .int 1]) h2) _ _ ((Same.upd (o := .tup [.int 1, .int 1]) h1) _ _ P1.at_))))
        rw [hL] at this
        cases this
      refine ⟨L, _, _, _, rfl, rfl, SqL.of (k3 L hLp _ gL), hu, (by show 2 ≤ sizeLine; decide), fun t ht => ?_⟩
      exact k _ _ (.doubt d) (i + 1 + 1) (((k1.trans (Keep.of_same s1)).trans k3).trans (Keep.of_same (Same.upd ht))) (P3.mono (Same.upd ht)) (by omega) ⟨t, u, rfl, upd_same, Same.upd ht _ _ hd⟩ hm
    · refine ⟨_, rfl, p, q, ms, i + 1, 3, rfl, P1, by decide, by omega, fun r2 H3 a0 a1 e3 P3 => ?_⟩
      refine ⟨_, _, rfl, rfl, (by show 2 ≤ sizeLine; decide), fun t ht => ?_⟩
      exact k _ _ (.look (1 + r2)) (i + 1 + 1) ((k1.trans (Keep.of_eq e3)).trans (Keep.of_same (Same.upd ht))) (P3.mono (Same.upd ht)) (by omega) ⟨t, rfl, upd_same⟩ ⟨by omega, by omega⟩
end
end Ps

/-! The laws' own plans of books: a plan is drawn; a book is made of it. -/
namespace Ps
open PySem PySem.Spec PyProof.Rows PySem.W L2

def spLPlan : Sp := fun vs H Q _ => ∃ (p q : Addr) (ms : List Int) (i : Nat) (m : Int), vs = [.ref p, .int m] ∧ Pool H p q ms i ∧ i ≤ 900 ∧ 0 ≤ m ∧ m ≤ 6 ∧
  ∀ a H' pl vf va j, Keep p H H' → H a = none → Pool H' p q ms j → j ≤ i + 10 → PlAt H' a pl vf va → PlOk pl → Q (.ref a) H'
def spMAfter (C : Addr) : Sp := fun vs H Q _ => ∃ v a, vs = [v] ∧ PAfV H v a ∧ PAfOk a ∧ ∀ w H', Same H H' → AfV C H' w (afOf a) → Q w H'
def spMBook (C CB : Addr) : Sp := fun vs H Q _ => ∃ a pl vf va, vs = [.ref a] ∧ PlAt H a pl vf va ∧ PlOk pl ∧ ∀ v H', Same H H' → BkAt C CB H' v (bkOfPl pl) → Q v H'
section
variable {Z : Cz} {f C CB : Addr} {fd : FuncData}
theorem ok_lplan (F : Fun Z.K "_law_plan" "_law_plan" s_lw_plan f fd) (c_lw_draw : CDraw Z) (c_lw_after : Cal Z CX0 2 "_law_after" ["_law_pool_here"] [] spLAfter) : Z.ok CX0 3 f fd ["_law_pool_here", "_law_most"] spLPlan := by
  refine F.ok sc_lw_plan (fun vs H Q E h => ?_) (fun cdv A outer s H vs Q E hr h => ?_)
  · obtain ⟨p, q, ms, i, m, rfl, _⟩ := h
    rfl
  · obtain ⟨p, q, ms, i, m, rfl, P, hi, m0, m1, k⟩ := h
    refine ⟨_, (pss_cons (ps_set (i := 2) sc_lw_plan.nd rfl (Or.inl rfl) (pe_ix ix_list (pe_lst (pa_cons pe_non (pa_cons pe_int (pa_cons pe_int (pa_cons pe_int (pa_cons pe_int (pa_cons pe_int (pa_cons pe_int pa_nil)))))))) (pe_cal c_lw_draw (hr.mono (by decide)) (by rfl) pass0 (pa_cons (pv 0) (pa_cons pe_int pa_nil))) (fun _ _ => rfl)))
      (C8.pss_cut (ps_if (PW.pt (pw_and (pt_cmpR op_notN (pv 2) pe_non (nomark _)) (pw_and1 (pt_cmpR op_gt (pv 2) (pv 1) (nomark _)))))
      (pss_one (ps_set (i := 2) sc_lw_plan.nd rfl (Or.inl rfl) (pv 1)))
      pss_nil)
      (pss_cons (ps_set (i := 3) sc_lw_plan.nd rfl (Or.inl rfl) (pe_ix ix_list (pe_lst (pa_cons pe_int (pa_cons pe_int (pa_cons pe_int (pa_cons pe_int (pa_cons pe_int (pa_cons pe_int (pa_cons pe_int pa_nil)))))))) (pe_cal c_lw_draw (hr.mono (by decide)) (by rfl) pass0 (pa_cons (pv 0) (pa_cons pe_int pa_nil))) (fun _ _ => rfl)))
      (pss_cons (ps_set (i := 4) sc_lw_plan.nd rfl (Or.inl rfl) (pe_disp (pps_cons pe_str (pv 2) (pps_cons pe_str (pv 3) (pps_cons pe_str (pe_ix ix_list (pe_lst (pa_cons (pe_tup (pa_cons pe_int (pa_cons pe_int pa_nil))) (pa_cons (pe_tup (pa_cons pe_int (pa_cons pe_int pa_nil))) (pa_cons (pe_tup (pa_cons pe_int (pa_cons pe_int pa_nil))) (pa_cons (pe_tup (pa_cons pe_int (pa_cons pe_int pa_nil))) pa_nil))))) (pe_cal c_lw_draw (hr.mono (by decide)) (by rfl) pass0 (pa_cons (pv 0) (pa_cons pe_int pa_nil))) (fun _ _ => rfl)) pps_nil))) (by rfl) (by rfl) (fun z => by cases z) (by decide)))
      (pss_cons (ps_asg (pe_tup (pa_cons (pe_cmpR op_eq (pe_cal c_lw_draw (hr.mono (by decide)) (by rfl) pass0 (pa_cons (pv 0) (pa_cons pe_int pa_nil))) pe_int (nomark _)) (pa_cons (pe_cmpR op_eq (pe_cal c_lw_draw (hr.mono (by decide)) (by rfl) pass0 (pa_cons (pv 0) (pa_cons pe_int pa_nil))) pe_int (nomark _)) pa_nil))) (pg_tup (by rfl) (pgs_cons (pg_sub (pv 4) pe_str (set_dct (hu_of hr))) (pgs_cons (pg_sub (pv 4) pe_str (set_dct (hu_of hr))) pgs_nil))))
      (pss_cons (ps_asg (pe_tup (pa_cons (pe_cal c_lw_after (hr.mono (by decide)) (by rfl) pass0 (pa_cons (pv 0) pa_nil)) (pa_cons (pe_cmpR op_gt (pe_cal c_lw_draw (hr.mono (by decide)) (by rfl) pass0 (pa_cons (pv 0) (pa_cons pe_int pa_nil))) pe_int (nomark _)) pa_nil))) (pg_tup (by rfl) (pgs_cons (pg_sub (pv 4) pe_str (set_dct (hu_of hr))) (pgs_cons (pg_sub (pv 4) pe_str (set_dct (hu_of hr))) pgs_nil))))
      (pss_one (ps_ret (pv 4))))))))), ?_⟩
    -- tries
    refine ⟨(by show 7 ≤ sizeLine; decide), fun L hL => ?_⟩
    have P0 := P.mono (Same.upd (o := .lst [.non, .int 0, .int 1, .int 2, .int 3, .int 2, .int 3]) hL)
    refine ⟨_, rfl, p, q, ms, i, 7, rfl, P0, by decide, by omega, fun r H1 r0 r1 e1 P1 => ?_⟩
    have k1 : Keep p H H1 := (Keep.of_same (Same.upd hL)).trans (Keep.of_eq e1)
    obtain ⟨o, ho, hor⟩ := pick_try r0 r1
    have hLp : L ≠ p := fun z => by rw [z, P.at_] at hL; cases hL
    refine ⟨L, _, _, _, rfl, rfl, SqL.of (by rw [e1 L hLp]; exact upd_same), ho, ?_⟩
    refine ⟨fun σ H' => ∃ o : Option Int, σ = [some (.ref p), some (.int m), some (trV o), none, none] ∧ H' = H1 ∧ ∀ i, o = some i → 0 ≤ i ∧ i ≤ 6, ?_, ?_⟩
    · cases o with
      | none => exact ⟨_, rfl, rfl, _, rfl, iteF ⟨none, rfl, rfl, by intro i z; cases z⟩⟩
      | some t =>
        obtain ⟨t0, t1⟩ := hor t rfl
        refine ⟨_, rfl, rfl, _, rfl, iteT ?_⟩
        refine ⟨_, rfl, _, rfl, _, _, rfl, rfl, _, rfl, iteD (fun h => ?_) (fun h => ?_)⟩
        · exact ⟨_, rfl, some m, rfl, rfl, by intro i z; cases z; exact ⟨m0, m1⟩⟩
        · exact ⟨some t, rfl, rfl, by intro i z; cases z; exact ⟨t0, by omega⟩⟩
    rintro σ H1' ⟨o', rfl, rfl, hor'⟩
    -- told
    refine ⟨(by show 7 ≤ sizeLine; decide), fun L2 hL2 => ?_⟩
    have P1' := P1.mono (Same.upd (o := .lst [.int 6, .int 9, .int 12, .int 18, .int 3, .int 15, .int 24]) hL2)
    refine ⟨_, rfl, p, q, ms, i + 1, 7, rfl, P1', by decide, by omega, fun r2 H2 a0 a1 e2 P2 => ?_⟩
    have k2 : Keep p H H2 := (k1.trans (Keep.of_same (Same.upd hL2))).trans (Keep.of_eq e2)
    obtain ⟨n, hn, hnt⟩ := pick_told a0 a1
    have hL2p : L2 ≠ p := fun z => by rw [z, P1.at_] at hL2; cases hL2
    refine ⟨L2, _, _, _, rfl, rfl, SqL.of (by rw [e2 L2 hL2p]; exact upd_same), hn, ?_⟩
    -- the dict
    intro D hD
    refine ⟨_, rfl, _, rfl, ?_⟩
    refine ⟨(by show 2 ≤ sizeLine; decide), fun t1 h1 => ?_⟩
    refine ⟨(by show 2 ≤ sizeLine; decide), fun t2 h2 => ?_⟩
    refine ⟨(by show 2 ≤ sizeLine; decide), fun t3 h3 => ?_⟩
    refine ⟨(by show 2 ≤ sizeLine; decide), fun t4 h4 => ?_⟩
    refine ⟨(by show 4 ≤ sizeLine; decide), fun L3 hL3 => ?_⟩
    have s6 := Same.upd (o := .lst [.ref t1, .ref t2, .ref t3, .ref t4]) hL3
    have s4 := (Same.upd (o := .tup [.int 1, .int 2]) h4).trans s6
    have s3 := (Same.upd (o := .tup [.int 2, .int 1]) h3).trans s4
    have s2 := (Same.upd (o := .tup [.int 0, .int 1]) h2).trans s3
    have s1 := (Same.upd (o := .tup [.int 1, .int 1]) h1).trans s2
    have g1 := s2 t1 _ upd_same
    have g2 := s3 t2 _ upd_same
    have g3 := s4 t3 _ upd_same
    have g4 := s6 t4 _ upd_same
    have gD := s1 D _ upd_same
    have s0 := (Same.upd (o := .dK []) hD).trans s1
    have gL : (upd (upd (upd (upd (upd (upd H2 D (.dK [])) t1 (.tup [.int 1, .int 1])) t2 (.tup [.int 0, .int 1])) t3 (.tup [.int 2, .int 1])) t4 (.tup [.int 1, .int 2])) L3 (.lst [.ref t1, .ref t2, .ref t3, .ref t4])) L3 = _ := upd_same
    have hL3p : L3 ≠ p := fun z => by
      have z1 := ((Same.upd (o := .tup [.int 1, .int 1]) h1).trans ((Same.upd (o := .tup [.int 0, .int 1]) h2).trans ((Same.upd (o := .tup [.int 2, .int 1]) h3).trans (Same.upd (o := .tup [.int 1, .int 2]) h4)))) _ _ ((Same.upd (o := .dK []) hD) _ _ P2.at_)
      rw [← z, hL3] at z1
      cases z1
    have hDp : D ≠ p := fun z => by rw [z, P2.at_] at hD; cases hD
    clear s1 s2 s3 s4 s6
    generalize (upd (upd (upd (upd (upd (upd H2 D (.dK [])) t1 (.tup [.int 1, .int 1])) t2 (.tup [.int 0, .int 1])) t3 (.tup [.int 2, .int 1])) t4 (.tup [.int 1, .int 2])) L3 (.lst [.ref t1, .ref t2, .ref t3, .ref t4])) = H3 at *
    have P3 := P2.mono s0
    refine ⟨_, rfl, p, q, ms, i + 2, 4, rfl, P3, by decide, by omega, fun r3 H4 b0 b1 e4 P4 => ?_⟩
    have k4' : Keep p H3 H4 := Keep.of_eq e4
    have tp4 : Tp H3 H4 := Tp.keep k4' P3.at_ (fun _ z => nomatch z)
    obtain ⟨u, fc, hu, hfc, hfm⟩ := pick4 (H := H4) b0 b1 (tp4 _ _ g1) (tp4 _ _ g2) (tp4 _ _ g3) (tp4 _ _ g4)
    refine ⟨L3, _, _, _, rfl, rfl, SqL.of (k4' L3 hL3p _ gL), hu, k4' D hDp _ gD, [(.inr "tries", trV o'), (.inr "told", .int n), (.inr "factor", .ref u)], rfl, (by show 3 ≤ 15; decide), ?_⟩
    have k4 : Keep p H H4 := (k2.trans (Keep.of_same s0)).trans k4'
    have gD4 := k4' D hDp _ gD
    have hD0 : H D = none := by
      cases hh : H D with
      | none => rfl
      | some o =>
        have := k2 D hDp _ hh
        rw [hD] at this
        cases this
    have hDq : D ≠ q := fun z => by rw [z, P4.nums] at gD4; cases gD4
    show tSeq _ _ _ _ (upd H4 D (.dK [(.inr "tries", trV o'), (.inr "told", .int n), (.inr "factor", .ref u)]))
    have P5 : Pool (upd H4 D (.dK [(.inr "tries", trV o'), (.inr "told", .int n), (.inr "factor", .ref u)])) p q ms (i + 2 + 1) := P4.put hDp hDq
    have hD5 : (upd H4 D (.dK [(.inr "tries", trV o'), (.inr "told", .int n), (.inr "factor", .ref u)])) D = some (.dK [(.inr "tries", trV o'), (.inr "told", .int n), (.inr "factor", .ref u)]) := upd_same
    have k5 : Keep p H (upd H4 D (.dK [(.inr "tries", trV o'), (.inr "told", .int n), (.inr "factor", .ref u)])) := k4.put hD0
    have f5 : FcV (upd H4 D (.dK [(.inr "tries", trV o'), (.inr "told", .int n), (.inr "factor", .ref u)])) (.ref u) fc := ⟨u, rfl, Tp.upd gD4 (fun _ z => nomatch z) _ _ hfc⟩
    generalize (upd H4 D (.dK [(.inr "tries", trV o'), (.inr "told", .int n), (.inr "factor", .ref u)])) = H5 at *
    -- equal, sliding
    refine ⟨_, rfl, p, q, ms, i + 2 + 1, 2, rfl, P5, by decide, by omega, fun r6 H6 c0 c1 e6 P6 => ?_⟩
    refine ⟨rfl, _, rfl, p, q, ms, i + 2 + 1 + 1, 2, rfl, P6, by decide, by omega, fun r7 H7 d0 d1 e7 P7 => ?_⟩
    refine ⟨rfl, (by show 2 ≤ sizeLine; decide), fun T hT => ?_⟩
    have k7' : Keep p H5 H7 := (Keep.of_eq e6).trans (Keep.of_eq e7)
    have hD7 := k7' D hDp _ hD5
    have f7 := f5.mono (Tp.keep k7' P5.at_ (fun _ z => nomatch z))
    generalize decide (V.int r6 = V.int 1) = be
    generalize decide (V.int r7 = V.int 1) = bs
    have eT := Same.upd (o := .tup [.bl be, .bl bs]) hT
    refine ⟨T, _, rfl, SqT.of upd_same, rfl, _, _, rfl, _, rfl, D, _, rfl, DPut.k (k := .inr "equal") (eT _ _ hD7) (by show 3 < sizeLine; decide), ?_⟩
    refine ⟨_, _, rfl, _, rfl, D, _, rfl, DPut.k (k := .inr "sliding") upd_same (by show 4 < sizeLine; decide), rfl, ?_⟩
    have hTD : T ≠ D := (ne_of_none hD7 hT).symm
    have hD8 : (upd (upd (upd H7 T (.tup [.bl be, .bl bs])) D (.dK (putK [(.inr "tries", trV o'), (.inr "told", .int n), (.inr "factor", .ref u)] (.inr "equal") (.bl be)))) D (.dK (putK (putK [(.inr "tries", trV o'), (.inr "told", .int n), (.inr "factor", .ref u)] (.inr "equal") (.bl be)) (.inr "sliding") (.bl bs)))) D = some (.dK [(.inr "tries", trV o'), (.inr "told", .int n), (.inr "factor", .ref u), (.inr "equal", .bl be), (.inr "sliding", .bl bs)]) := upd_same
    have k8' : Keep p H7 (upd (upd (upd H7 T (.tup [.bl be, .bl bs])) D (.dK (putK [(.inr "tries", trV o'), (.inr "told", .int n), (.inr "factor", .ref u)] (.inr "equal") (.bl be)))) D (.dK (putK (putK [(.inr "tries", trV o'), (.inr "told", .int n), (.inr "factor", .ref u)] (.inr "equal") (.bl be)) (.inr "sliding") (.bl bs)))) ∨ True := .inr trivial
    have k8 : Keep p H (upd (upd (upd H7 T (.tup [.bl be, .bl bs])) D (.dK (putK [(.inr "tries", trV o'), (.inr "told", .int n), (.inr "factor", .ref u)] (.inr "equal") (.bl be)))) D (.dK (putK (putK [(.inr "tries", trV o'), (.inr "told", .int n), (.inr "factor", .ref u)] (.inr "equal") (.bl be)) (.inr "sliding") (.bl bs)))) := (((k5.trans k7').trans (Keep.of_same eT)).put hD0).put hD0
    have tp8 : Tp H7 (upd (upd (upd H7 T (.tup [.bl be, .bl bs])) D (.dK (putK [(.inr "tries", trV o'), (.inr "told", .int n), (.inr "factor", .ref u)] (.inr "equal") (.bl be)))) D (.dK (putK (putK [(.inr "tries", trV o'), (.inr "told", .int n), (.inr "factor", .ref u)] (.inr "equal") (.bl be)) (.inr "sliding") (.bl bs)))) :=
      ((Tp.of eT).trans (Tp.upd (eT _ _ hD7) (fun _ z => nomatch z))).trans (Tp.upd upd_same (fun _ z => nomatch z))
    have P8 : Pool (upd (upd (upd H7 T (.tup [.bl be, .bl bs])) D (.dK (putK [(.inr "tries", trV o'), (.inr "told", .int n), (.inr "factor", .ref u)] (.inr "equal") (.bl be)))) D (.dK (putK (putK [(.inr "tries", trV o'), (.inr "told", .int n), (.inr "factor", .ref u)] (.inr "equal") (.bl be)) (.inr "sliding") (.bl bs)))) p q ms (i + 2 + 1 + 1 + 1) := ((P7.mono eT).put hDp hDq).put hDp hDq
    generalize (upd (upd (upd H7 T (.tup [.bl be, .bl bs])) D (.dK (putK [(.inr "tries", trV o'), (.inr "told", .int n), (.inr "factor", .ref u)] (.inr "equal") (.bl be)))) D (.dK (putK (putK [(.inr "tries", trV o'), (.inr "told", .int n), (.inr "factor", .ref u)] (.inr "equal") (.bl be)) (.inr "sliding") (.bl bs)))) = H8 at hD8 k8 tp8 P8
    clear k8'
    have f8 := f7.mono tp8
    -- after, keep
    refine ⟨_, rfl, p, q, ms, i + 2 + 1 + 1 + 1, rfl, P8, by omega, fun va H9 pa j k9' P9 hj hpa hpo => ?_⟩
    refine ⟨_, rfl, p, q, ms, j, 3, rfl, P9, by decide, by omega, fun r10 H10 g0 g1' e10 P10 => ?_⟩
    refine ⟨_, _, rfl, rfl, (by show 2 ≤ sizeLine; decide), fun T2 hT2 => ?_⟩
    have k10' : Keep p H9 H10 := Keep.of_eq e10
    have tp9 : Tp H8 H9 := Tp.keep k9' P8.at_ (fun _ z => nomatch z)
    have tp10 : Tp H9 H10 := Tp.keep k10' P9.at_ (fun _ z => nomatch z)
    have hD10 := k10' D hDp _ (k9' D hDp _ hD8)
    have eT2 := Same.upd (o := .tup [va, .bl (decide (r10 > 0))]) hT2
    refine ⟨T2, _, rfl, SqT.of upd_same, rfl, _, _, rfl, _, rfl, D, _, rfl, DPut.k (k := .inr "after") (eT2 _ _ hD10) (by show 5 < sizeLine; decide), ?_⟩
    refine ⟨_, _, rfl, _, rfl, D, _, rfl, DPut.k (k := .inr "keep") upd_same (by show 6 < sizeLine; decide), rfl, ?_⟩
    refine ⟨_, rfl, ?_⟩
    have tp11 := (tp10.trans (Tp.of eT2)).trans ((Tp.upd (u := .dK (putK [(.inr "tries", trV o'), (.inr "told", .int n), (.inr "factor", .ref u), (.inr "equal", .bl be), (.inr "sliding", .bl bs)] (.inr "after") va)) (eT2 _ _ hD10) (fun _ z => nomatch z)).trans (Tp.upd (u := .dK (putK (putK [(.inr "tries", trV o'), (.inr "told", .int n), (.inr "factor", .ref u), (.inr "equal", .bl be), (.inr "sliding", .bl bs)] (.inr "after") va) (.inr "keep") (.bl (decide (r10 > 0))))) upd_same (fun _ z => nomatch z)))
    exact k D _ ⟨o', n, fc, be, bs, pa, decide (r10 > 0)⟩ (.ref u) va (j + 1) (((((k8.trans k9').trans k10').trans (Keep.of_same eT2)).put hD0).put hD0) hD0 (((P10.mono eT2).put hDp hDq).put hDp hDq) (by omega) ⟨upd_same, f8.mono (tp9.trans tp11), hpa.mono tp11⟩ ⟨hor', hnt, hfm, hpo⟩
end
end Ps

/-! The laws' own plans of books: a book is made of a plan. -/
namespace Ps
open PySem PySem.Spec PyProof.Rows PySem.W L2
section
variable {Z : Cz} {f C CB : Addr} {fd : FuncData}
theorem ok_mafter (F : Fun Z.K "_law_made_after" "_law_made_after" s_lw_made_after f fd) (M : ShM Z C) : Z.ok CX0 4 f fd ["_law_ending"] (spMAfter C) := by
  refine F.ok sc_lw_made_after (fun vs H Q E h => ?_) (fun cdv A outer s H vs Q E hr h => ?_)
  · obtain ⟨v, a, rfl, _⟩ := h
    rfl
  · obtain ⟨v, a, rfl, hv, ho, k⟩ := h
    refine ⟨_, (pss_cons (ps_if (pt_cmpR op_eq (pe_ix ix_tup (pv 0) pe_int (fun _ _ => rfl)) pe_str (nomark _))
      (pss_one (ps_ret pe_str))
      pss_nil)
      (pss_cons (ps_if (pt_cmpR op_eq (pe_ix ix_tup (pv 0) pe_int (fun _ _ => rfl)) pe_str (nomark _))
      (pss_one (ps_ret (pe_tup (pa_cons pe_str (pa_cons (pe_ix ix_tup (pv 0) pe_int (fun _ _ => rfl)) pa_nil)))))
      pss_nil)
      (pss_one (ps_ret (pe_tup (pa_cons pe_str (pa_cons (pe_calC M.new (hr.mono (by decide)) (by rfl) pass0 (pa_cons (pe_ix ix_tup (pe_ix ix_tup (pv 0) pe_int (fun _ _ => rfl)) pe_int (fun _ _ => rfl)) (pa_cons (pe_ix ix_tup (pe_ix ix_tup (pv 0) pe_int (fun _ _ => rfl)) pe_int (fun _ _ => rfl)) pa_nil))) pa_nil))))))), ?_⟩
    cases a with
    | ever =>
      obtain ⟨t, rfl, ht⟩ := hv
      refine ⟨_, rfl, t, _, _, _, rfl, rfl, SqT.of ht, rfl, rfl, _, rfl, iteT ?_⟩
      exact k _ H (Same.refl _) rfl
    | look i =>
      obtain ⟨t, rfl, ht⟩ := hv
      refine ⟨_, rfl, t, _, _, _, rfl, rfl, SqT.of ht, rfl, rfl, _, rfl, iteF ?_⟩
      refine ⟨_, rfl, t, _, _, _, rfl, rfl, SqT.of ht, rfl, rfl, _, rfl, iteT ?_⟩
      refine ⟨_, rfl, t, _, _, _, rfl, rfl, SqT.of ht, rfl, (by show 2 ≤ sizeLine; decide), fun u hu => ?_⟩
      exact k _ _ (Same.upd hu) ⟨u, rfl, upd_same⟩
    | doubt q =>
      obtain ⟨t, u, rfl, ht, hu⟩ := hv
      obtain ⟨d1, d2, d3, d4⟩ := doubt_ok ho
      refine ⟨_, rfl, t, _, _, _, rfl, rfl, SqT.of ht, rfl, rfl, _, rfl, iteF ?_⟩
      refine ⟨_, rfl, t, _, _, _, rfl, rfl, SqT.of ht, rfl, rfl, _, rfl, iteF ?_⟩
      refine ⟨_, rfl, t, _, _, _, rfl, rfl, SqT.of ht, rfl, u, _, _, _, rfl, rfl, SqT.of hu, rfl, ?_⟩
      refine ⟨_, rfl, t, _, _, _, rfl, rfl, SqT.of ht, rfl, u, _, _, _, rfl, rfl, SqT.of hu, rfl, ?_⟩
      intro xa dx hxa hdx hne
      refine mk_shI d1 (lt_up (m := 10) (by omega) (by decide)) hxa hdx hne fun H1 e1 z1 => ⟨rfl, (by show 2 ≤ sizeLine; decide), fun w hw => ?_⟩
      exact k _ _ (e1.trans (Same.upd hw)) ⟨w, _, rfl, upd_same, z1.mono (Same.upd hw)⟩
abbrev CMAfter (Z : Cz) (C : Addr) : Prop := Cal Z CX0 4 "_law_made_after" ["_law_ending"] [] (spMAfter C)
theorem pl_get {H : Hp} {a : Addr} {p : Plan} {vf va : V} (h : PlAt H a p vf va) (x : Str) {v : V} (hv : valV (plL p vf va) (.inr x) = some v) : DGet H a (.str x) (some v) := by rw [← hv]; exact DGet.k (k := .inr x) h.d
theorem ok_mbook (F : Fun Z.K "_law_made_book" "_law_made_book" s_lw_made_book f fd) (M : ShM Z C) (c : CBookK Z C CB) (c_lw_made_after : CMAfter Z C) : Z.ok CX0 12 f fd ["_law_plan_here"] (spMBook C CB) := by
  refine F.ok sc_lw_made_book (fun vs H Q E h => ?_) (fun cdv A outer s H vs Q E hr h => ?_)
  · obtain ⟨a, pl, vf, va, rfl, _⟩ := h
    rfl
  · obtain ⟨a, pl, vf, va, rfl, hp, ho, k⟩ := h
    refine ⟨_, (pss_cons (ps_set (i := 1) sc_lw_made_book.nd rfl (Or.inl rfl) (pe_calC M.new (hr.mono (by decide)) (by rfl) pass0 (pa_cons (pe_ix ix_tup (pe_dget (hu_of hr) (pv 0) pe_str (fun _ _ => rfl)) pe_int (fun _ _ => rfl)) (pa_cons (pe_ix ix_tup (pe_dget (hu_of hr) (pv 0) pe_str (fun _ _ => rfl)) pe_int (fun _ _ => rfl)) pa_nil))))
      (pss_cons (ps_set (i := 2) sc_lw_made_book.nd rfl (Or.inl rfl) (pe_cal c_lw_made_after (hr.mono (by decide)) (by rfl) pass0 (pa_cons (pe_dget (hu_of hr) (pv 0) pe_str (fun _ _ => rfl)) pa_nil)))
      (pss_one (ps_ret (pe_calCK c hr (by rfl) pass0 (pa_cons (pe_dget (hu_of hr) (pv 0) pe_str (fun _ _ => rfl)) (pa_cons (pe_calC M.new (hr.mono (by decide)) (by rfl) pass0 (pa_cons (pe_dget (hu_of hr) (pv 0) pe_str (fun _ _ => rfl)) (pa_cons pe_int pa_nil))) pa_nil)) (pk_cons (pv 1) (pk_cons (pe_dget (hu_of hr) (pv 0) pe_str (fun _ _ => rfl)) (pk_cons (pe_dget (hu_of hr) (pv 0) pe_str (fun _ _ => rfl)) (pk_cons (pv 2) (pk_cons (pe_dget (hu_of hr) (pv 0) pe_str (fun _ _ => rfl)) pk_nil)))))))))), ?_⟩
    obtain ⟨t, rfl, ht⟩ := hp.f
    obtain ⟨f1, f2, f3, f4⟩ := factor_ok ho.fc
    obtain ⟨g1, g2⟩ := told_ok ho.tl
    refine ⟨_, rfl, a, _, rfl, pl_get hp "factor" rfl, t, _, _, _, rfl, rfl, SqT.of ht, rfl, ?_⟩
    refine ⟨_, rfl, a, _, rfl, pl_get hp "factor" rfl, t, _, _, _, rfl, rfl, SqT.of ht, rfl, ?_⟩
    intro x1 d1 hx1 hd1 hn1
    refine mk_shI f1 (lt_up (m := 10) (by omega) (by decide)) hx1 hd1 hn1 fun H1 e1 z1 => ⟨rfl, ?_⟩
    have hp1 := hp.mono e1
    refine ⟨_, rfl, a, _, rfl, pl_get hp1 "after" rfl, va, _, rfl, hp1.a, ho.af, fun w H2 e2 hw => ?_⟩
    have hp2 := hp1.mono e2
    have tail : ∀ {Q1 : VK}, (∀ v H', Same H2 H' → BkAt C CB H' v (bkOfPl pl) → Q1 v H') → (tMakeK CB 2 bkKs.length (spBook C CB) (fun vs zs => vs ++ zs) E0 (tCons (tDGet (tVar 0) (tC (.str "tries"))) (tCons (tMake C (spShInit C) [] E0 (tCons (tDGet (tVar 0) (tC (.str "told"))) (tCons (tC (.int 6)) tNil))) tNil)) (tCons (tVar 1) (tCons (tDGet (tVar 0) (tC (.str "equal"))) (tCons (tDGet (tVar 0) (tC (.str "sliding"))) (tCons (tVar 2) (tCons (tDGet (tVar 0) (tC (.str "keep"))) tNil)))))) [some (.ref a), some (.ref x1), some w] H2 Q1 := by
      intro Q1 kk
      refine ⟨_, rfl, a, _, rfl, pl_get hp2 "tries" rfl, _, rfl, a, _, rfl, pl_get hp2 "told" rfl, ?_⟩
      intro x3 d3 hx3 hd3 hn3
      refine mk_shI (by decide) (by decide +kernel) hx3 hd3 hn3 fun H3 e3 z3 => ⟨rfl, ?_⟩
      have hp3 := hp2.mono e3
      refine ⟨_, rfl, _, rfl, a, _, rfl, pl_get hp3 "equal" rfl, _, rfl, a, _, rfl, pl_get hp3 "sliding" rfl, _, rfl, _, rfl, a, _, rfl, pl_get hp3 "keep" rfl, rfl, rfl, ?_⟩
      intro x4 d4 hx4 hd4 hn4
      exact mk_book (b := bkOfPl pl) hx4 hd4 hn4 ⟨ho.bk, .inl z3, .inl (z1.mono (e2.trans e3)), (hw.mono e3).toA⟩ fun H' e h => ⟨rfl, kk _ H' (e3.trans e) h⟩
    first
      | exact tail fun v H' e h => k v H' ((e1.trans e2).trans e) h
      | exact ⟨_, _, rfl, tail fun v H' e h => k v H' ((e1.trans e2).trans e) h⟩
abbrev CMBook (Z : Cz) (C CB : Addr) : Prop := Cal Z CX0 12 "_law_made_book" ["_law_plan_here"] [] (spMBook C CB)
end
end Ps

/-! Keys of books as data. -/
namespace Ps
open PySem PySem.Spec PyProof.Rows PySem.W L2

def pairD (q : Int × Int) : PyData := .tuple [.int q.1, .int q.2]
def trD : Option Int → PyData
  | none => .none
  | some i => .int i
def endD : Af → PyData
  | .ever => .tuple [.str "ever"]
  | .doubt q => .tuple [.str "doubt", pairD q]
  | .look i => .tuple [.str "look", .int i]
def keyD (b : Bk) : PyData := .tuple [trD b.tries, pairD b.told, pairD b.factor, .bool b.equal, .bool b.sliding, endD b.after, .bool b.keep]
theorem eqv_intD (i j : Int) : PyData.eqv (.int i) (.int j) = decide (i = j) := by
  simp [PyData.eqv]
  by_cases h : i = j
  · rw [decide_eq_true h, h]
    simp
  · rw [decide_eq_false h]
    exact beq_eq_false_iff_ne.mpr h
theorem eqv_pairD (p q : Int × Int) : PyData.eqv (pairD p) (pairD q) = decide (p = q) := by
  obtain ⟨a, b⟩ := p
  obtain ⟨c, d⟩ := q
  unfold pairD
  rw [PyData.eqv]
  simp only [PyData.eqvAll, eqv_intD, Bool.and_true]
  by_cases h1 : a = c <;> by_cases h2 : b = d <;> simp [h1, h2]
theorem eqv_trD (p q : Option Int) : PyData.eqv (trD p) (trD q) = decide (p = q) := by
  cases p with
  | none => cases q <;> simp [trD, PyData.eqv]
  | some i =>
    cases q with
    | none => simp [trD, PyData.eqv]
    | some j =>
      show PyData.eqv (.int i) (.int j) = _
      rw [eqv_intD]
      by_cases h : i = j <;> simp [h]
theorem eqv_boolD (p q : Bool) : PyData.eqv (.bool p) (.bool q) = decide (p = q) := by
  cases p <;> cases q <;> simp [PyData.eqv]
theorem eqv_strD (a b : Str) : PyData.eqv (.str a) (.str b) = decide (a = b) := by
  simp [PyData.eqv]
  by_cases h : a = b
  · rw [decide_eq_true h, h]
    simp
  · rw [decide_eq_false h]
    exact beq_eq_false_iff_ne.mpr h
theorem doubt_look : decide ((Str.ofString "doubt" : Str) = Str.ofString "look") = false := by decide +kernel
theorem look_doubt : decide ((Str.ofString "look" : Str) = Str.ofString "doubt") = false := by decide +kernel
theorem eqv_endD (p q : Af) : PyData.eqv (endD p) (endD q) = decide (p = q) := by
  cases p <;> cases q <;> unfold endD <;> rw [PyData.eqv] <;> simp only [PyData.eqvAll, eqv_strD, eqv_pairD, eqv_intD, Bool.and_true, Bool.and_false, decide_true, Bool.true_and, doubt_look, look_doubt, Bool.false_and]
  all_goals simp
theorem eqv_keyD (b c : Bk) : PyData.eqv (keyD b) (keyD c) = decide (b = c) := by
  unfold keyD
  rw [PyData.eqv]
  simp only [PyData.eqvAll, eqv_trD, eqv_pairD, eqv_boolD, eqv_endD, Bool.and_true]
  obtain ⟨b1, b2, b3, b4, b5, b6, b7⟩ := b
  obtain ⟨c1, c2, c3, c4, c5, c6, c7⟩ := c
  rw [Bool.eq_iff_iff]
  simp
theorem lay_str (z : Str) (h : PyData.strOk z = true) : PyData.canLay0 (.str z) = true := by
  simp [PyData.canLay0, h]
theorem lay_end (a : Af) : PyData.canLay0 (endD a) = true ∧ (endD a).depth ≤ 3 := by
  have h1 : PyData.strOk ("ever" : Str) = true := by decide +kernel
  have h2 : PyData.strOk ("doubt" : Str) = true := by decide +kernel
  have h3 : PyData.strOk ("look" : Str) = true := by decide +kernel
  cases a <;> simp [endD, pairD, PyData.canLay0, PyData.canLayAll0, PyData.depth, PyData.depthAll, h1, h2, h3]
theorem lay_key (b : Bk) : PyData.canLay0 (keyD b) = true ∧ (keyD b).depth ≤ 5 := by
  obtain ⟨t, q, r, e, s, a, k⟩ := b
  obtain ⟨h1, h2⟩ := lay_end a
  have h3 : PyData.canLay0 (trD t) = true ∧ (trD t).depth = 0 := by cases t <;> simp [trD, PyData.canLay0, PyData.depth]
  refine ⟨?_, ?_⟩
  · simp [keyD, pairD, PyData.canLay0, PyData.canLayAll0, h1, h3.1]
  · simp [keyD, pairD, PyData.depth, PyData.depthAll, h3.2]
    omega
theorem shaped_by {d : PyData} (h : PyData.canLay0 d = true) (h2 : d.depth ≤ 64) : SeqAt.shaped d = true := by
  unfold SeqAt.shaped
  rw [h, decide_eq_true h2]
  rfl
theorem shaped_key (b : Bk) : SeqAt.shaped (keyD b) = true := shaped_by (lay_key b).1 (Nat.le_trans (lay_key b).2 (by decide))
theorem lay_keys : ∀ bs : List Bk, PyData.canLayAll0 (bs.map keyD) = true ∧ PyData.depthAll (bs.map keyD) ≤ 5
  | [] => by simp [PyData.canLayAll0, PyData.depthAll]
  | b :: bs => by
    obtain ⟨h1, h2⟩ := lay_key b
    obtain ⟨h3, h4⟩ := lay_keys bs
    rw [List.map_cons]
    simp only [PyData.canLayAll0, PyData.depthAll, h1, h3, Bool.and_true, true_and]
    omega
theorem shaped_keys (bs : List Bk) : SeqAt.shaped (.list (bs.map keyD)) = true := by
  obtain ⟨h1, h2⟩ := lay_keys bs
  refine shaped_by ?_ ?_
  · simp only [PyData.canLay0, h1]
  · simp only [PyData.depth]
    omega
theorem any_key (bs : List Bk) (b : Bk) : ((bs.map keyD).any fun z => PyData.eqv z (keyD b)) = decide (b ∈ bs) := by
  induction bs with
  | nil => simp
  | cons c r ih =>
    rw [List.map_cons, List.any_cons, ih, eqv_keyD]
    by_cases h : c = b
    · subst h; simp
    · have h' : ¬ b = c := fun z => h z.symm
      simp [h, h']
end Ps

/-! What a step keeps, as a relation; comprehensions by it; draws without counting. -/
namespace Ps
open PySem PySem.Spec PyProof.Rows PySem.W L2 LamX

/-- a relation of heaps that lets new objects come, and lists that came since -/
structure HR (G : Hp → Hp → Prop) (ok : Addr → Prop) : Prop where
  refl : ∀ H, G H H
  trans : ∀ {H H1 H2}, G H H1 → G H1 H2 → G H H2
  new : ∀ {H l o}, H l = none → G H (upd H l o)
  put : ∀ {H H1 D xs ys}, G H H1 → H D = none → H1 D = some (.lst xs) → G H (upd H1 D (.lst ys))
  lst : ∀ {H H1 a xs}, G H H1 → ok a → H a = some (.lst xs) → H1 a = some (.lst xs)
theorem hr_same : HR Same fun _ => True := ⟨Same.refl, fun a b => a.trans b, fun h => Same.upd h, fun a n _ b o e => by
  rw [upd_ne (ne_of_none e n)]
  exact a b o e, fun g _ h => g _ _ h⟩
section
variable {T : List (Addr × Str)} {p : Option Addr}
theorem hr_gr : HR (Gr T p) fun a => some a ≠ p := ⟨Gr.refl, fun a b => a.trans b, fun h => Gr.new h, fun a n h => a.put n h, fun g h e => g.at e h⟩
end
/-! ### draws -/
/-- a pool, wherever its place is -/
def Pl (H : Hp) (p q : Addr) (ms : List Int) : Prop := (∃ i : Nat, H p = some (.lst [.ref q, .int i])) ∧ H q = some (.lst (ms.map V.int))
theorem Pl.ne {H : Hp} {p q : Addr} {ms : List Int} (h : Pl H p q ms) : q ≠ p := by
  obtain ⟨⟨i, h1⟩, h2⟩ := h
  refine ne_of h2 h1 fun z => ?_
  have z := HO.lst.inj z
  cases ms with
  | nil => cases z
  | cons m r => cases (List.cons.inj z).1
theorem Pl.of {H : Hp} {p q : Addr} {ms : List Int} {i : Nat} (h : Pool H p q ms i) : Pl H p q ms := ⟨⟨i, h.at_⟩, h.nums⟩
structure Gp (T : List (Addr × Str)) (p q : Addr) (ms : List Int) (H H' : Hp) : Prop where
  g : Gr T (some p) H H'
  pl : Pl H p q ms → Pl H' p q ms
section
variable {T : List (Addr × Str)} {p q : Addr} {ms : List Int} {H H1 H2 : Hp}
theorem Gp.refl (H : Hp) : Gp T p q ms H H := ⟨Gr.refl H, fun h => h⟩
theorem Gp.trans (a : Gp T p q ms H H1) (b : Gp T p q ms H1 H2) : Gp T p q ms H H2 := ⟨a.g.trans b.g, fun h => b.pl (a.pl h)⟩
theorem Pl.gr (g : Gr T none H H1) (h : Pl H p q ms) : Pl H1 p q ms := by
  obtain ⟨⟨i, h1⟩, h2⟩ := h
  exact ⟨⟨i, g.at h1⟩, g.at h2⟩
theorem Gp.of (g : Gr T none H H1) : Gp T p q ms H H1 := ⟨g.up, fun h => h.gr g⟩
theorem Gp.same (e : Same H H1) : Gp T p q ms H H1 := .of (.of e)
theorem Gp.at {b : Addr} {o : HO} (g : Gp T p q ms H H1) (h : H b = some o) (hb : b ≠ p) (n : ∀ ps, o ≠ .tbl ps := by intro _ z; cases z) : H1 b = some o := g.g.at h (by intro z; exact hb (Option.some.inj z)) n
theorem hr_gp : HR (Gp T p q ms) fun a => a ≠ p := ⟨Gp.refl, fun a b => a.trans b, fun h => .same (Same.upd h), fun a n h => ⟨a.g.put n h, fun h0 => by
  obtain ⟨⟨i, h1⟩, h2⟩ := a.pl h0
  obtain ⟨⟨_, g1⟩, g2⟩ := h0
  exact ⟨⟨i, by rw [upd_ne (ne_of_none g1 n)]; exact h1⟩, by rw [upd_ne (ne_of_none g2 n)]; exact h2⟩⟩, fun g h e => g.at e h⟩
end
/-- a draw -/
def spDr (T : List (Addr × Str)) : Sp := fun vs H Q _ => ∃ (p q : Addr) (ms : List Int) (n : Int), vs = [.ref p, .int n] ∧ Pl H p q ms ∧ 0 < n ∧ ∀ r H', 0 ≤ r → r < n → Gp T p q ms H H' → Q (.int r) H'
theorem ok_dr {Z : Cz} {f : Addr} {fd : FuncData} {TT : List (Addr × Str)} (F : Fun Z.K "_law_draw" "_law_draw" s_lw_draw f fd) (T : DrT Z) : Z.ok CX0 1 f fd ["_law_pool_here", "_law_many"] (spDr TT) := by
  refine F.ok sc_lw_draw (fun vs H Q E h => ?_) (fun cdv A outer s H vs Q E hr h => ?_)
  · obtain ⟨p, q, ms, n, rfl, _⟩ := h
    rfl
  · obtain ⟨p, q, ms, n, rfl, hP, hn, k⟩ := h
    have hne := hP.ne
    obtain ⟨⟨i, h1⟩, h2⟩ := hP
    refine ⟨_, (pss_cons (ps_set (i := 2) sc_lw_draw.nd rfl (Or.inl rfl) (pe_ix ix_list (pv 0) pe_int (fun _ _ => rfl)))
      (pss_cons (ps_asg (pe_op op_add (pv 2) pe_int) (pg_sub (pv 0) pe_int set_list))
      (pss_one (ps_ret (pe_ifExp (pt_cmpR op_lt (pv 2) (pe_callB call_len_seq (by rfl) T.len PySem.boot_len (pa_cons (pe_ix ix_list (pv 0) pe_int (fun _ _ => rfl)) pa_nil)) (nomark _)) (pe_op op_mod (pe_int1 (by rfl) T.int (pe_ix ix_list (pe_ix ix_list (pv 0) pe_int (fun _ _ => rfl)) (pv 2) (fun _ _ => rfl))) (pv 1)) pe_int))))), ?_⟩
    refine ⟨_, rfl, p, _, _, _, rfl, rfl, SqL.of h1, rfl, ?_⟩
    refine ⟨_, rfl, _, _, rfl, rfl, _, rfl, p, _, _, 1, rfl, rfl, h1, rfl, ?_⟩
    have hu : (upd H p (.lst [.ref q, .int ((i : Int) + 1)])) p = some (.lst [.ref q, .int ((i : Int) + 1)]) := upd_same
    have hq : (upd H p (.lst [.ref q, .int ((i : Int) + 1)])) q = some (.lst (ms.map V.int)) := by rw [upd_ne hne]; exact h2
    have hG : Gp TT p q ms H (upd H p (.lst [.ref q, .int ((i : Int) + 1)])) := ⟨.only h1 hu fun b hb => upd_ne hb, fun _ => ⟨⟨i + 1, hu⟩, hq⟩⟩
    refine ⟨_, rfl, _, rfl, p, _, _, _, rfl, rfl, SqL.of hu, rfl, q, _, rfl, .inl (SqL.of hq), _, _, rfl, rfl, _, rfl, iteD (fun hlt => ?_) (fun hge => ?_)⟩
    · rw [List.length_map] at hlt
      have hlt' : i < ms.length := by omega
      refine ⟨_, rfl, p, _, _, _, rfl, rfl, SqL.of hu, rfl, _, rfl, q, _, _, V.int ms[i], rfl, rfl, SqL.of hq, ?_, _, rfl, _, rfl, _, _, rfl, rfl, hn, ?_⟩
      · exact atI_nat (by rw [List.getElem?_map, List.getElem?_eq_getElem hlt']; rfl)
      · exact k _ _ (Int.emod_nonneg _ (by omega)) (Int.emod_lt_of_pos _ hn) hG
    · exact k 0 _ (Int.le_refl 0) hn hG
/-! ### comprehensions -/
theorem wipe_one (σ : L2.St) (i : Nat) (x : V) : wipe ((wipe σ [i]).set i (some x)) [i] = wipe σ [i] := by
  show (((σ.set i none).set i (some x)).set i none) = σ.set i none
  rw [List.set_set, List.set_set]
section
variable {G : Hp → Hp → Prop} {ok : Addr → Prop} {J : It} {n : Nat} {Gd : Hp → Prop} {Y : Nat → Hp → V → Hp → Prop} {P : Nat → V → Prop} {te : TE} {i : Nat} {σ : L2.St} {H1 : Hp} {D : Addr} {Qd : Hp → Prop}
/-- results that are known before -/
theorem lcF (hG : HR G ok) (w : Walk J n Gd Y) (hy : ∀ i H x H', Y i H x H' → H' = H ∧ P i x) {ys : List V} (hn : ys.length = n) (hz : n ≤ 100000) (hD : H1 D = none) (hok : ok D) (hGd : ∀ H2, G H1 H2 → Gd H2)
    (step : ∀ j x y H2 (Qe : VK), P j x → ys[j]? = some y → G H1 H2 → (∀ H3, G H2 H3 → Qe y H3) → te ((wipe σ [i]).set i (some x)) H2 Qe) (fin : ∀ H2, G H1 H2 → H2 D = some (.lst ys) → Qd H2) :
    ∃ W : Nat → Nat → Hp → Prop, (∃ m, W 0 m (upd H1 D (.lst []))) ∧ ∀ k m H, W k m H →
      (J.stop k H ∧ Qd H) ∨ (J.go k H ∧ ∃ Nx : Hp → Prop, (∀ H', Nx H' → ∃ m', m' < m ∧ W (k + 1) m' H') ∧ ∀ x H', J.yld k H x H' → gName i x (wipe σ [i]) H' fun σ2 H2 => wipe σ2 [i] = wipe σ [i] ∧ tYes σ2 H2 fun b H3 =>
        if b = true then te σ2 H3 fun y H4 => ∃ acc, H4 D = some (.lst acc) ∧ acc.length < sizeLine ∧ Nx (upd H4 D (.lst (acc ++ [y]))) else Nx H3) := by
  refine lc_it w (fun j H' => G H1 H' ∧ H' D = some (.lst (ys.take j))) ⟨hG.new hD, upd_same⟩ (fun j H' _ h => hGd _ h.1) ?_ (fun H' h => ?_)
  · rintro j x H2 H' hj ⟨g, hl⟩ y
    obtain ⟨rfl, px⟩ := hy j H2 x H' y
    refine ⟨wipe_one σ i x, ?_⟩
    have hj' : j < ys.length := by omega
    refine step j x ys[j] _ _ px (List.getElem?_eq_getElem hj') g fun H3 g3 => ⟨ys.take j, hG.lst g3 hok hl, ?_, hG.put (hG.trans g g3) hD (hG.lst g3 hok hl), ?_⟩
    · rw [List.length_take]
      exact small1000' (by omega)
    · rw [upd_same, List.take_succ, List.getElem?_eq_getElem hj']
      rfl
  · rw [← hn, List.take_length] at h
    exact fin H' h.1 h.2
/-- results told by a relation -/
theorem lcR (hG : HR G ok) (w : Walk J n Gd Y) (hy : ∀ i H x H', Y i H x H' → H' = H ∧ P i x) {β : Type} {bs : List β} (R : V → β → Hp → Prop) (hn : bs.length = n) (hz : n ≤ 100000) (hD : H1 D = none) (hok : ok D) (hGd : ∀ H2, G H1 H2 → Gd H2)
    (stab : ∀ y b H2 H3, R y b H2 → G H2 H3 → R y b H3) (stabD : ∀ y b H2 xs zs, R y b H2 → H2 D = some (.lst xs) → R y b (upd H2 D (.lst zs)))
    (step : ∀ j x b H2 acc (Qe : VK), P j x → bs[j]? = some b → G H1 H2 → H2 D = some (.lst acc) → (∀ y H3, G H2 H3 → R y b H3 → Qe y H3) → te ((wipe σ [i]).set i (some x)) H2 Qe)
    (fin : ∀ H2 ys, G H1 H2 → H2 D = some (.lst ys) → Al (fun y b => R y b H2) ys bs → Qd H2) :
    ∃ W : Nat → Nat → Hp → Prop, (∃ m, W 0 m (upd H1 D (.lst []))) ∧ ∀ k m H, W k m H →
      (J.stop k H ∧ Qd H) ∨ (J.go k H ∧ ∃ Nx : Hp → Prop, (∀ H', Nx H' → ∃ m', m' < m ∧ W (k + 1) m' H') ∧ ∀ x H', J.yld k H x H' → gName i x (wipe σ [i]) H' fun σ2 H2 => wipe σ2 [i] = wipe σ [i] ∧ tYes σ2 H2 fun b H3 =>
        if b = true then te σ2 H3 fun y H4 => ∃ acc, H4 D = some (.lst acc) ∧ acc.length < sizeLine ∧ Nx (upd H4 D (.lst (acc ++ [y]))) else Nx H3) := by
  refine lc_it w (fun j H' => G H1 H' ∧ ∃ ys, H' D = some (.lst ys) ∧ ys.length = j ∧ Al (fun y b => R y b H') ys (bs.take j)) ⟨hG.new hD, [], upd_same, rfl, Al.nil⟩ (fun j H' _ h => hGd _ h.1) ?_ (fun H' h => ?_)
  · rintro j x H2 H' hj ⟨g, ys, hl, hlen, hal⟩ y
    obtain ⟨rfl, px⟩ := hy j H2 x H' y
    refine ⟨wipe_one σ i x, ?_⟩
    have hj' : j < bs.length := by omega
    refine step j x bs[j] _ ys _ px (List.getElem?_eq_getElem hj') g hl fun v H3 g3 rv => ?_
    have hl3 := hG.lst g3 hok hl
    refine ⟨ys, hl3, small1000' (by omega), hG.put (hG.trans g g3) hD hl3, ys ++ [v], upd_same, by simp [hlen], ?_⟩
    rw [List.take_succ, List.getElem?_eq_getElem hj']
    exact Al.snoc (hal.imp fun y b r => stabD y b H3 _ _ (stab y b _ _ r g3) hl3) (stabD v _ H3 _ _ rv hl3)
  · obtain ⟨g, ys, hl, _, hal⟩ := h
    rw [← hn, List.take_length] at hal
    exact fin H' ys g hl hal
end
theorem yat {xs : List V} : ∀ i (H : Hp) x (H' : Hp), YAt xs i H x H' → H' = H ∧ xs[i]? = some x := fun _ _ _ _ h => h
theorem yfn {f : Nat → V} : ∀ i (H : Hp) x (H' : Hp), YFn f i H x H' → H' = H ∧ x = f i := fun _ _ _ _ h => h
end Ps

/-! [x for x in xs if t]: t told by the place. -/
namespace Ps
open PySem PySem.Spec PyProof.Rows PySem.W L2

/-- those whose flag is set -/
def selL {α : Type} : List α → List Bool → List α
  | x :: xs, b :: bs => if b then x :: selL xs bs else selL xs bs
  | _, _ => []
theorem selL_nil {α : Type} (bs : List Bool) : selL ([] : List α) bs = [] := by cases bs <;> rfl
theorem selL_len {α : Type} : ∀ (xs : List α) (bs : List Bool), (selL xs bs).length ≤ xs.length
  | [], bs => by rw [selL_nil]; exact Nat.le_refl _
  | x :: xs, [] => Nat.zero_le _
  | x :: xs, b :: bs => by
    have := selL_len xs bs
    show (if b then x :: selL xs bs else selL xs bs).length ≤ _
    split
    · simp; omega
    · simp; omega
theorem selL_map {α : Type} (p : α → Bool) : ∀ (xs : List α), selL xs (xs.map p) = xs.filter p
  | [] => rfl
  | x :: xs => by
    show (if p x then x :: selL xs (xs.map p) else selL xs (xs.map p)) = _
    rw [selL_map p xs, List.filter_cons]
theorem selL_snoc {α : Type} (x : α) (b : Bool) : ∀ {xs : List α} {bs : List Bool}, xs.length = bs.length → selL (xs ++ [x]) (bs ++ [b]) = selL xs bs ++ (if b then [x] else [])
  | [], [], _ => by cases b <;> rfl
  | [], _ :: _, h => by cases h
  | _ :: _, [], h => by cases h
  | y :: xs, c :: bs, h => by
    have ih := selL_snoc x b (xs := xs) (bs := bs) (by simpa using h)
    show (if c then y :: selL (xs ++ [x]) (bs ++ [b]) else selL (xs ++ [x]) (bs ++ [b])) = _
    rw [ih]
    cases c <;> rfl
theorem al_cons {α : Type} {R : V → α → Prop} {v : V} {q : α} {vs : List V} {qs : List α} (h : Al R (v :: vs) (q :: qs)) : R v q ∧ Al R vs qs :=
  ⟨h.2 0 v q rfl rfl, by have := h.1; simpa using this, fun i a b h1 h2 => h.2 (i + 1) a b (by simpa using h1) (by simpa using h2)⟩
theorem al_mk {α : Type} {R : V → α → Prop} {v : V} {q : α} {vs : List V} {qs : List α} (h : R v q) (r : Al R vs qs) : Al R (v :: vs) (q :: qs) :=
  ⟨by simp [r.1], fun i a b h1 h2 => by
    cases i with
    | zero =>
      cases h1
      cases h2
      exact h
    | succ i => exact r.2 i a b (by simpa using h1) (by simpa using h2)⟩
theorem al_app {α : Type} {R : V → α → Prop} : ∀ {vs us : List V} {qs ps : List α}, Al R vs qs → Al R us ps → Al R (vs ++ us) (qs ++ ps)
  | [], us, [], ps, _, h => h
  | [], _, _ :: _, _, h, _ => by have := h.1; simp at this
  | _ :: _, _, [], _, h, _ => by have := h.1; simp at this
  | v :: vs, us, q :: qs, ps, h, h' => al_mk (al_cons h).1 (al_app (al_cons h).2 h')
theorem al_sel {α : Type} {R : V → α → Prop} (p : α → Bool) : ∀ {vs : List V} {qs : List α}, Al R vs qs → Al R (selL vs (qs.map p)) (qs.filter p)
  | [], [], _ => Al.nil
  | [], _ :: _, h => by have := h.1; simp at this
  | _ :: _, [], h => by have := h.1; simp at this
  | v :: vs, q :: qs, h => by
    obtain ⟨h1, h2⟩ := al_cons h
    have ih := al_sel p h2
    show Al R (if p q then v :: selL vs (qs.map p) else selL vs (qs.map p)) _
    rw [List.filter_cons]
    cases p q with
    | true => exact al_mk h1 ih
    | false => exact ih
section
variable {G : Hp → Hp → Prop} {ok : Addr → Prop} {tt : TT} {i : Nat} {σ : L2.St} {H1 : Hp} {D : Addr} {Qd : Hp → Prop} {J : L2.It} {n : Nat} {Gd : Hp → Prop} {Y : Nat → Hp → V → Hp → Prop}
theorem lcI {xs : List V} {pb : List Bool} (hG : HR G ok) (w : Walk J n Gd Y) (hy : ∀ i H x H', Y i H x H' → H' = H ∧ xs[i]? = some x) (hn : xs.length = n) (hp : pb.length = n) (hi : i < σ.length) (hz : n ≤ 100000) (hD : H1 D = none) (hok : ok D) (hGd : ∀ H2, G H1 H2 → Gd H2)
    (step : ∀ (j : Nat) x b H2 (Qb : Bool → Hp → Prop), xs[j]? = some x → pb[j]? = some b → G H1 H2 → (∀ H3, G H2 H3 → Qb b H3) → tt ((wipe σ [i]).set i (some x)) H2 Qb)
    (fin : ∀ H2, G H1 H2 → H2 D = some (.lst (selL xs pb)) → Qd H2) :
    ∃ W : Nat → Nat → Hp → Prop, (∃ m, W 0 m (upd H1 D (.lst []))) ∧ ∀ k m H, W k m H →
      (J.stop k H ∧ Qd H) ∨ (J.go k H ∧ ∃ Nx : Hp → Prop, (∀ H', Nx H' → ∃ m', m' < m ∧ W (k + 1) m' H') ∧ ∀ x H', J.yld k H x H' → gName i x (wipe σ [i]) H' fun σ2 H2 => wipe σ2 [i] = wipe σ [i] ∧ tt σ2 H2 fun b H3 =>
        if b = true then tVar i σ2 H3 fun y H4 => ∃ acc, H4 D = some (.lst acc) ∧ acc.length < sizeLine ∧ Nx (upd H4 D (.lst (acc ++ [y]))) else Nx H3) := by
  refine lc_it w (fun j H' => G H1 H' ∧ H' D = some (.lst (selL (xs.take j) (pb.take j)))) ⟨hG.new hD, by rw [upd_same, List.take_zero, selL_nil]⟩ (fun j H' _ h => hGd _ h.1) ?_ (fun H' h => ?_)
  · rintro j x H2 H' hj ⟨g, hl⟩ y
    obtain ⟨rfl, px⟩ := hy j H2 x H' y
    refine ⟨wipe_one σ i x, ?_⟩
    obtain ⟨b, hb⟩ : ∃ b, pb[j]? = some b := ⟨pb[j]'(by omega), List.getElem?_eq_getElem _⟩
    have et : xs.take (j + 1) = xs.take j ++ [x] := by rw [List.take_succ, px]; rfl
    have eb : pb.take (j + 1) = pb.take j ++ [b] := by rw [List.take_succ, hb]; rfl
    have hle : (xs.take j).length = (pb.take j).length := by rw [List.length_take, List.length_take, hn, hp]
    refine step j x b _ _ px hb g fun H3 g3 => ?_
    have hl3 := hG.lst g3 hok hl
    rw [et, eb, selL_snoc x b hle]
    cases b with
    | false =>
      refine ⟨hG.trans g g3, ?_⟩
      rw [hl3]
      simp
    | true =>
      refine ⟨x, ?_, _, hl3, ?_, hG.put (hG.trans g g3) hD hl3, ?_⟩
      · have hs : i < (wipe σ [i]).length := by rw [wipe_length]; exact hi
        show (List.set (wipe σ [i]) i (some x))[i]? = _
        rw [List.getElem?_set_self hs]
      · refine small1000' (Nat.le_trans (selL_len _ _) ?_)
        rw [List.length_take]
        omega
      · rw [upd_same]
        rfl
  · have h2 := h.2
    rw [List.take_of_length_le (by omega), List.take_of_length_le (by omega)] at h2
    exact fin H' h.1 h2
/-- values and flags told by the place -/
theorem lcS {P : Nat → V → Prop} {te : TE} {ys : List V} {pb : List Bool} (hG : HR G ok) (w : Walk J n Gd Y) (hy : ∀ i H x H', Y i H x H' → H' = H ∧ P i x) (hn : ys.length = n) (hp : pb.length = n) (hz : n ≤ 100000) (hD : H1 D = none) (hok : ok D) (hGd : ∀ H2, G H1 H2 → Gd H2)
    (step : ∀ (j : Nat) x b H2 (Qb : Bool → Hp → Prop), P j x → pb[j]? = some b → G H1 H2 → (∀ H3, G H2 H3 → Qb b H3) → tt ((wipe σ [i]).set i (some x)) H2 Qb)
    (step2 : ∀ (j : Nat) x y H2 (Qe : VK), P j x → pb[j]? = some true → ys[j]? = some y → G H1 H2 → (∀ H3, G H2 H3 → Qe y H3) → te ((wipe σ [i]).set i (some x)) H2 Qe)
    (fin : ∀ H2, G H1 H2 → H2 D = some (.lst (selL ys pb)) → Qd H2) :
    ∃ W : Nat → Nat → Hp → Prop, (∃ m, W 0 m (upd H1 D (.lst []))) ∧ ∀ k m H, W k m H →
      (J.stop k H ∧ Qd H) ∨ (J.go k H ∧ ∃ Nx : Hp → Prop, (∀ H', Nx H' → ∃ m', m' < m ∧ W (k + 1) m' H') ∧ ∀ x H', J.yld k H x H' → gName i x (wipe σ [i]) H' fun σ2 H2 => wipe σ2 [i] = wipe σ [i] ∧ tt σ2 H2 fun b H3 =>
        if b = true then te σ2 H3 fun y H4 => ∃ acc, H4 D = some (.lst acc) ∧ acc.length < sizeLine ∧ Nx (upd H4 D (.lst (acc ++ [y]))) else Nx H3) := by
  refine lc_it w (fun j H' => G H1 H' ∧ H' D = some (.lst (selL (ys.take j) (pb.take j)))) ⟨hG.new hD, by rw [upd_same, List.take_zero, selL_nil]⟩ (fun j H' _ h => hGd _ h.1) ?_ (fun H' h => ?_)
  · rintro j x H2 H' hj ⟨g, hl⟩ yy
    obtain ⟨rfl, px⟩ := hy j H2 x H' yy
    refine ⟨wipe_one σ i x, ?_⟩
    obtain ⟨b, hb⟩ : ∃ b, pb[j]? = some b := ⟨pb[j]'(by omega), List.getElem?_eq_getElem _⟩
    obtain ⟨y, hyj⟩ : ∃ y, ys[j]? = some y := ⟨ys[j]'(by omega), List.getElem?_eq_getElem _⟩
    have et : ys.take (j + 1) = ys.take j ++ [y] := by rw [List.take_succ, hyj]; rfl
    have eb : pb.take (j + 1) = pb.take j ++ [b] := by rw [List.take_succ, hb]; rfl
    have hle : (ys.take j).length = (pb.take j).length := by rw [List.length_take, List.length_take, hn, hp]
    refine step j x b _ _ px hb g fun H3 g3 => ?_
    have hl3 := hG.lst g3 hok hl
    rw [et, eb, selL_snoc y b hle]
    cases b with
    | false =>
      refine ⟨hG.trans g g3, ?_⟩
      rw [hl3]
      simp
    | true =>
      refine step2 j x y H3 _ px hb hyj (hG.trans g g3) fun H4 g4 => ?_
      have hl4 := hG.lst g4 hok hl3
      refine ⟨_, hl4, ?_, hG.put (hG.trans (hG.trans g g3) g4) hD hl4, ?_⟩
      · refine small1000' (Nat.le_trans (selL_len _ _) ?_)
        rw [List.length_take]
        omega
      · rw [upd_same]
        rfl
  · have h2 := h.2
    rw [List.take_of_length_le (by omega), List.take_of_length_le (by omega)] at h2
    exact fin H' h.1 h2
end
theorem selL_mapf {α β : Type} (g : α → β) : ∀ (xs : List α) (pb : List Bool), (selL xs pb).map g = selL (xs.map g) pb
  | [], pb => by rw [selL_nil, List.map_nil, selL_nil]
  | _ :: _, [] => rfl
  | x :: xs, b :: pb => by
    show (if b then x :: selL xs pb else selL xs pb).map g = if b then g x :: selL (xs.map g) pb else selL (xs.map g) pb
    rw [← selL_mapf g xs pb]
    cases b <;> rfl
theorem selL_sub {α : Type} : ∀ (xs : List α) (pb : List Bool), (selL xs pb).Sublist xs
  | [], pb => by rw [selL_nil]; exact .slnil
  | _ :: _, [] => List.nil_sublist _
  | x :: xs, b :: pb => by
    show (if b then x :: selL xs pb else selL xs pb).Sublist _
    cases b with
    | true => exact (selL_sub xs pb).cons₂ x
    | false => exact (selL_sub xs pb).cons x
theorem al_selB {α : Type} {R : V → α → Prop} : ∀ {vs : List V} {qs : List α} (pb : List Bool), Al R vs qs → Al R (selL vs pb) (selL qs pb)
  | [], [], pb, _ => by rw [selL_nil, selL_nil]; exact Al.nil
  | [], _ :: _, _, h => by have := h.1; simp at this
  | _ :: _, [], _, h => by have := h.1; simp at this
  | _ :: _, _ :: _, [], _ => Al.nil
  | v :: vs, q :: qs, b :: pb, h => by
    obtain ⟨h1, h2⟩ := al_cons h
    have ih := al_selB pb h2
    cases b with
    | true => exact al_mk h1 ih
    | false => exact ih
end Ps

/-! for loops in generators whose body hands out. -/
namespace Ps
open PySem PySem.Spec PyProof.Rows L2

section
variable {prog : Program} {w : World} {A : Around} {R : GenEnd} {Y : Protocol} {n : Nat} {s₀ s : Shared} {c : Code} {fs : List Frame} {env : Env}
theorem seg_stand {α : Type} {k : Unit → Sem α} {K : α → Sem PySem.Fin} {J : Value → Sem PySem.Fin} {gd : Bool → Bool} {lv : List Value → List Value} {p : Pos} (h : Seg (model prog w) A R Y n s₀ c ((k ()).wrap K J gd lv) fs s) : Seg (model prog w) A R Y n s₀ c ((standAt p >>= k).wrap K J gd lv) fs s := seg_at h
theorem seg_forG {K : Flow → Sem PySem.Fin} {J : Value → Sem PySem.Fin} {gd : Bool → Bool} {lv : List Value → List Value} {target iter : Expr} {body : List Stmt} {pos : Pos} {E : Value → Shared → Prop}
    (h : wpAny (model prog w) (A.over c fs) (eval iter env) (fun x s1 => wpAny (model prog w) (A.over c fs) (pyIter x) (fun it s2 => ∀ p, Seg (model prog w) A R Y n s₀ (.forLoop target it body [] env) ((model prog w).den (.forLoop target it body [] env))
        (.ret (fun r => ((match r with | .ok f => (.pure f : Sem Flow) | .error e => .raise e).onRaise (cameBack env)).wrap K J gd lv) none (gd false) (lv []) c p [] :: fs) s2) E s1) E s)
    (hE : ∀ x s', E x s' → Seg (model prog w) A R Y n s₀ c (J x) fs s') (hs : ∀ x, foldedSetIterable iter env x = pure x) :
    Seg (model prog w) A R Y n s₀ c ((exec (.For target iter body [] pos) env).wrap K J gd lv) fs s := by
  rw [exec_For]
  refine seg_stand ?_
  refine seg_bind_wrap (wpAny_mono h (fun x s1 h1 => ?_) hE)
  rw [hs]
  refine seg_stand ?_
  refine seg_bind_wrap (wpAny_holding (wpAny_mono h1 (fun it s2 h2 => ?_) hE))
  exact seg_call h2
/-- what a loop's code does with an exception -/
abbrev lotGoes (env : Env) (x : Value) : Sem PySem.Fin := (do noteFrame x env; theTreesLotGoes x : Sem Unit).wrap (fun _ => .raise x) .raise id id
theorem seg_forTurn {target : Expr} {it : Value} {body : List Stmt} {E : Value → Shared → Prop}
    (h : wpAny (model prog w) (A.over (.forLoop target it body [] env) fs) (pyNext it) (fun r s1 => match r with
      | none => Seg (model prog w) A R Y n s₀ (.block [] env) (leafOf (.ok .next)) fs s1
      | some v => wpAny (model prog w) (A.over (.forLoop target it body [] env) fs) (letOwnedTupleGo target it v) (fun _ s2 => wpAny (model prog w) (A.over (.forLoop target it body [] env) fs) (assign target env v) (fun _ s3 =>
          Seg (model prog w) A R Y n s₀ (.forLoop target it body [] env) ((execs body env).wrap (fun f => match f with
            | .next | .cont => .pure (.again (.forLoop target it body [] env))
            | .brk => .pure (.done .next)
            | .ret v => .pure (.done (.ret v))) (lotGoes env) id id) fs s3) E s2) E s1) E s)
    (hE : ∀ x s', E x s' → Seg (model prog w) A R Y n s₀ (.forLoop target it body [] env) (lotGoes env x) fs s') :
    Seg (model prog w) A R Y n s₀ (.forLoop target it body [] env) ((model prog w).den (.forLoop target it body [] env)) fs s := by
  have hE' : ∀ x s', E x s' → Seg (model prog w) A R Y n s₀ (.forLoop target it body [] env) ((do noteFrame x env; theTreesLotGoes x : Sem Unit).bind fun _ => .raise x) fs s' := fun x s' hx => by
    rw [Sem.bind_eq_wrap]
    exact hE x s' hx
  show Seg _ A R Y n s₀ _ ((forTurn target it body [] env).onRaise (fun x => do noteFrame x env; theTreesLotGoes x)) fs s
  unfold forTurn
  rw [Sem.onRaise_eq_wrap]
  refine seg_stand ?_
  refine seg_bind_wrap (wpAny_onRaise (wpAny_mono h (fun r s1 h1 => ?_) fun x s' hx => wpAny_standAt (hE' x s' hx)))
  cases r with
  | none => exact seg_again rfl h1
  | some v =>
    refine seg_bind_wrap (wpAny_mono h1 (fun _ s2 h2 => ?_) hE')
    refine seg_bind_wrap (wpAny_mono h2 (fun _ s3 h3 => ?_) hE')
    show Seg _ A R Y n s₀ _ (Sem.wrap _ _ _ _ ((execs body env) >>= _)) fs s3
    rw [Sem.bind_eq_wrap', Sem.wrap_wrap]
    rw [Sem.wrap_congr (execs body env) _ _ (K' := fun f => match f with
            | .next | .cont => .pure (.again (.forLoop target it body [] env))
            | .brk => .pure (.done .next)
            | .ret v => .pure (.done (.ret v))) (H' := lotGoes env)
        (fun f => by cases f <;> rfl)
        (fun e => by first | exact Sem.bind_eq_wrap _ _ | (show (do noteFrame e env; theTreesLotGoes e : Sem Unit).bind (fun _ => .raise e) = _; rw [Sem.bind_eq_wrap]))]
    exact h3
end
section
variable {X : Cx} {iter tg : Expr} {body : List Stmt} {wi : TI} {g : TG} {tb : TGn} {pos : Pos}
/-- W: the invariant by the turn, a measure, and what is out -/
def tGFor (wi : TI) (g : TG) (tb : TGn) : TGn := fun D ys σ H => wi σ H fun J H1 => ∃ W : Nat → Nat → List V → L2.St → Hp → Prop, (∃ m, W 0 m ys σ H1) ∧ ∀ i m ys σ H, W i m ys σ H →
  (J.stop i H ∧ D.nx ys σ H) ∨ (J.go i H ∧ ∃ N : List V → L2.St → Hp → Prop, (∀ ys' σ' H', N ys' σ' H' → ∃ m', m' < m ∧ W (i + 1) m' ys' σ' H') ∧ ∀ x H', J.yld i H x H' → g x σ H' fun σ2 H2 => tb { D with nx := N, ct := N, bk := D.nx } ys σ2 H2)
theorem gs_for (hp : PassesOwn (model X.prog X.w) X.A X.env X.xe) (hc : X.calm = true) (hi : PI X tg iter wi) (hg : PG X tg g) (hb : GSs X body tb)
    (hs : ∀ x, foldedSetIterable iter X.env x = pure x := by intro _; rfl) : GS X (.For tg iter body [] pos) (tGFor wi g tb) := by
  refine ⟨fun A S ip R n ys s₀ c fs K J gd lv s σ H D G hn k hI ht => ?_⟩
  obtain ⟨acc, cc, r, I⟩ := hI
  refine seg_forG (E := X.xe) ?_ (fun x s' hx => k.exc n s₀ x s' hx) hs
  rw [G.over]
  refine thn (hi.run _ s σ H _ I ht) fun v s1 h1 => thn h1 fun itv s2 h2 p => ?_
  obtain ⟨it, fp, tn, Jt, H2, e, I2, T, st2, f2, W, ⟨m0, w0⟩, turn⟩ := h2
  subst e
  have gl := fun (kk : Result → Sem PySem.Fin) => gc_loop (k := kk) (c' := .forLoop tg (.ref it) body [] X.env) (l := lv []) (kp := []) (p := p) G rfl rfl
  have glb := fun (kk : Result → Sem PySem.Fin) => gc_loop (k := kk) (c' := .block [] X.env) (l := lv []) (kp := []) (p := p) G rfl rfl
  have nS : ∀ b ∈ fp, b ≠ S := fun b hb z => (f2 b hb).2.2.2.2.2 (S, lstObj acc cc) (List.mem_append_right _ List.mem_cons_self) z.symm
  have stat : ∀ {H' : Hp} {acc' : Array Value} {cc' : Nat}, (∀ b ∈ fp, H' b = none) → ∀ b ∈ fp, FpOk X ((S, lstObj acc' cc') :: ip) H' b := fun {H' acc' cc'} hn b hb => by
    obtain ⟨_, q1, q2, q3, q4, q5⟩ := f2 b hb
    refine ⟨hn b hb, q1, q2, q3, q4, fun p hp => ?_⟩
    rcases List.mem_append.mp hp with hp | hp
    · exact q5 p (List.mem_append_left _ hp)
    · rcases List.mem_cons.mp hp with hp | hp
      · rw [hp]
        exact (nS b hb).symm
      · exact q5 p (List.mem_append_right _ (List.mem_cons_of_mem _ hp))
  have loop : ∀ (m i n : Nat) (ys : List V) (s₀ s : Shared) (σ : L2.St) (H : Hp), n + ys.length = sizeLine → W i m ys σ H → GI X S ip ys σ H s → tn i s.heap → (∀ b ∈ fp, H b = none) →
      Seg (model X.prog X.w) A R (GY X S) n s₀ (.forLoop tg (.ref it) body [] X.env) ((model X.prog X.w).den (.forLoop tg (.ref it) body [] X.env))
        (.ret (fun r => ((match r with | .ok f => (.pure f : Sem Flow) | .error e => .raise e).onRaise (cameBack X.env)).wrap K J gd lv) none (gd false) (lv []) c p [] :: fs) s := by
    intro m
    induction m using Nat.strongRecOn with
    | ind m ih =>
      intro i n ys s₀ s σ H hn w hI st fr
      have ee : ∀ (n : Nat) (s₀ : Shared) (x : Value) (s' : Shared), X.xe x s' → Seg (model X.prog X.w) A R (GY X S) n s₀ (.forLoop tg (.ref it) body [] X.env) (lotGoes X.env x)
          (.ret (fun r => ((match r with | .ok f => (.pure f : Sem Flow) | .error e => .raise e).onRaise (cameBack X.env)).wrap K J gd lv) none (gd false) (lv []) c p [] :: fs) s' := fun n s₀ x s' hx => by
        refine seg_wrap ?_
        rw [(gl _).over]
        refine wpAny_bind (wpAny_mono (hp x s' hx) (fun _ s'' hcb => wpAny_theTreesLotGoes ?_) fun y s'' hcb => ?_)
        · exact seg_leaf (.error x) (seg_cameBack G k hcb)
        · exact seg_leaf (.error y) (seg_cameBack G k hcb)
      refine seg_forTurn (E := X.xe) ?_ (fun x s' hx => ee n s₀ x s' hx)
      rw [(gl _).over]
      obtain ⟨acc, cc, r, I⟩ := hI
      rcases turn i m ys σ H w with ⟨stop, qn⟩ | ⟨go, N, hN, step⟩
      · refine thn (T.done X rfl rfl rfl hc i _ s σ H X.xe I (stat fr) st stop) fun r1 s4 ⟨hr, I4⟩ => ?_
        subst hr
        exact seg_leaf (.ok .next) (k.ok n ys s₀ s4 .next hn ⟨σ, H, ⟨acc, cc, r, I4⟩, qn⟩)
      · refine thn (T.item X rfl rfl rfl hc i _ s σ H X.xe I (stat fr) st go) fun r1 s4 ⟨u, hr, h4⟩ => ?_
        subst hr
        refine thn h4 fun _ s5 ⟨x, H5, I5, r5, y5, st5, fr5⟩ => ?_
        have I5' := I5.pinned (stat fr5) (T.obj _ _ st5)
        refine thn (hg.run _ s5 σ H5 x u _ I5' r5 (step x H5 y5)) fun _ s6 ⟨σ6, H6, I6, q6⟩ => ?_
        have G' : GC X S (ip ++ pinsAt fp s5.heap) A (.forLoop tg (.ref it) body [] X.env) (.ret (fun r => ((match r with | .ok f => (.pure f : Sem Flow) | .error e => .raise e).onRaise (cameBack X.env)).wrap K J gd lv) none (gd false) (lv []) c p [] :: fs) id :=
          ⟨G.pn, fun p hp => (List.mem_append.mp hp).elim (G.ip p) fun z => nS _ (of_pinsAt z).1, G.apart, (gl _).over, (gl _).split, (gl _).guard, rfl⟩
        have back : ∀ {ys' : List V} {σ7 : L2.St} {H7 : Hp} {s7 : Shared}, GI X S (ip ++ pinsAt fp s5.heap) ys' σ7 H7 s7 → GI X S ip ys' σ7 H7 s7 ∧ tn (i + 1) s7.heap ∧ ∀ b ∈ fp, H7 b = none := fun {ys' σ7 H7 s7} h => by
          obtain ⟨acc7, cc7, r7, I7⟩ := h
          have I7' : Inv X (((S, lstObj acc7 cc7) :: ip) ++ pinsAt fp s5.heap) σ7 H7 s7 := I7
          refine ⟨⟨acc7, cc7, r7, I7'.unpinned⟩, T.keep _ _ _ st5 fun b hb o e => (I7'.pin (b, o) (List.mem_append_right _ (List.mem_append_right _ (mem_pinsAt hb e)))).1, fun b hb => ?_⟩
          obtain ⟨o, e, d⟩ := T.obj _ _ st5 b hb
          exact (I7'.pin (b, o) (List.mem_append_right _ (List.mem_append_right _ (mem_pinsAt hb e)))).2.1
        refine hb.run A S (ip ++ pinsAt fp s5.heap) R n ys s₀ _ _ _ _ id id s6 σ6 H6 { D with nx := N, ct := N, bk := D.nx } G' hn ⟨fun n' ys' s₀' s7 f hn' hs => ?_, fun n' s₀' x s3 hx => ee n' s₀' x s3 hx⟩ ⟨acc, cc, r, I6⟩ q6
        cases f with
        | next =>
          obtain ⟨σ7, H7, I7, n7⟩ := hs
          obtain ⟨m', hm, w7⟩ := hN ys' σ7 H7 n7
          obtain ⟨b1, b2, b3⟩ := back I7
          exact seg_again rfl (ih m' hm (i + 1) n' ys' s₀' s7 σ7 H7 hn' w7 b1 b2 b3)
        | cont =>
          obtain ⟨σ7, H7, I7, n7⟩ := hs
          obtain ⟨m', hm, w7⟩ := hN ys' σ7 H7 n7
          obtain ⟨b1, b2, b3⟩ := back I7
          exact seg_again rfl (ih m' hm (i + 1) n' ys' s₀' s7 σ7 H7 hn' w7 b1 b2 b3)
        | brk =>
          obtain ⟨σ7, H7, I7, q7⟩ := hs
          exact seg_leaf (.ok .next) (k.ok n' ys' s₀' s7 .next hn' ⟨σ7, H7, (back I7).1, q7⟩)
        | ret v =>
          obtain ⟨x7, σ7, H7, I7, r7, q7⟩ := hs
          exact seg_leaf (.ok (.ret v)) (k.ok n' ys' s₀' s7 (.ret v) hn' ⟨x7, σ7, H7, (back I7).1, r7, q7⟩)
  exact loop m0 0 n ys s₀ s2 σ H2 hn w0 ⟨acc, cc, r, I2⟩ st2 fun b hb => (f2 b hb).1
/-- for x in l, in a generator -/
theorem for_listG {K : PySem.W.Frag} {a : Addr} {xs : List V} {g : TG} {tb : TGn} {D : GEnds} {ys : List V} {σ : L2.St} {H : Hp} (Pv : Nat → List V → L2.St → Hp → Prop) (h0 : Pv 0 ys σ H) (hl : ∀ i ys σ H, i ≤ xs.length → Pv i ys σ H → SqL K H a xs)
    (hs : ∀ i x ys σ H, xs[i]? = some x → Pv i ys σ H → g x σ H fun σ2 H2 => tb { D with nx := Pv (i + 1), ct := Pv (i + 1), bk := D.nx } ys σ2 H2) (hd : ∀ ys σ H, Pv xs.length ys σ H → D.nx ys σ H) :
    ∃ W : Nat → Nat → List V → L2.St → Hp → Prop, (∃ m, W 0 m ys σ H) ∧ ∀ i m ys σ H, W i m ys σ H →
      ((Itl K a).stop i H ∧ D.nx ys σ H) ∨ ((Itl K a).go i H ∧ ∃ N : List V → L2.St → Hp → Prop, (∀ ys' σ' H', N ys' σ' H' → ∃ m', m' < m ∧ W (i + 1) m' ys' σ' H') ∧ ∀ x H', (Itl K a).yld i H x H' → g x σ H' fun σ2 H2 => tb { D with nx := N, ct := N, bk := D.nx } ys σ2 H2) := by
  refine ⟨fun i m zs τ G => m + i = xs.length ∧ Pv i zs τ G, ⟨xs.length, rfl, h0⟩, fun i m zs τ G hw => ?_⟩
  have hle : i ≤ xs.length := by omega
  have at_ := hl i zs τ G hle hw.2
  by_cases hi : i = xs.length
  · subst hi
    exact .inl ⟨⟨xs, at_, Nat.le_refl _⟩, hd zs τ G hw.2⟩
  · have hlt : i < xs.length := by omega
    refine .inr ⟨⟨xs, xs[i], at_, List.getElem?_eq_getElem hlt⟩, Pv (i + 1), fun ys' τ' G' p' => ⟨xs.length - (i + 1), by omega, by omega, p'⟩, fun x G' y => ?_⟩
    obtain ⟨rfl, y⟩ := y
    exact hs i x zs τ _ (y xs at_) hw.2
/-- a generator def -/
theorem Fun.okY {Z : Cz} {x qual : Str} {st : Stmt} {f : Addr} {fd : FuncData} {N ps : List Str} {k : Nat} {sp : SpG} (F : Fun Z.K x qual st f fd) (S : GScope N ps (defScope st)) (len : ∀ vs H Q E, sp vs H Q E → vs.length = ps.length)
    (hbody : ∀ (cdv : Value) (A : Around) (outer : List Env) (s : Shared) (H : Hp) (vs : List V) (Q : List V → Hp → Prop) (E : XK) (pn : List (Addr × Obj)), Room k (A.deeper (envOfC qual (defScope st) s.heap.objs.size f cdv)) → sp vs H Q E →
      ∃ t, GSs (gcxOf Z.P Z.w Z.K Z.mg Z.base N qual (defScope st) f cdv A outer s H E pn) (defBody st) t ∧ t { nx := fun ys _ H' => Q ys H', rt := fun ys v H' => v = .non ∧ Q ys H' } [] (start N vs) H) :
    GFn Z.P Z.w Z.K Z.mg Z.base (k + 1) f fd ps sp := by
  obtain ⟨oc, od, kV, doc, pm, an, cdv, ct, osl, rfl, lk, hcd⟩ := F.ex
  exact gfn_of lk hcd S len fun A outer s H vs Q E pn hr hsp => hbody cdv A outer s H vs Q E pn hr hsp
end
end Ps

/-! Menus: their methods. -/
namespace Ps
open PySem PySem.Spec PyProof.Rows PySem.W L2

def joinB (bs cs : List Bk) : List Bk := bs ++ cs.filter fun c => !decide (c ∈ bs)
theorem joinB_nd {bs cs : List Bk} (h1 : bs.Nodup) (h2 : cs.Nodup) : (joinB bs cs).Nodup := by
  unfold joinB
  rw [List.nodup_append]
  refine ⟨h1, h2.sublist List.filter_sublist, fun a ha b hb => ?_⟩
  intro e
  subst e
  have := (List.mem_filter.mp hb).2
  simp [ha] at this
def lessB (bs cs : List Bk) : Bool := bs.all fun b => decide (b ∈ cs)
def spCkMn (K : Frag) (C CB CM CX : Addr) : Sp := fun vs H Q E => ∃ v, vs = [v] ∧ ((∃ bs, MnAt C CB CM H v bs ∧ Q .non H) ∨ (NoIn K CM H v ∧ Rz CX "value" v H E))
def spMnLen (C CB CM : Addr) : Sp := fun vs H Q _ => ∃ v bs, vs = [v] ∧ MnAt C CB CM H v bs ∧ Q (.int (bs.length : Nat)) H
def spMnGet (K : Frag) (C CB CM CX : Addr) : Sp := fun vs H Q E => ∃ m v bs, vs = [m, v] ∧ MnAt C CB CM H m bs ∧ ((∃ (i : Nat) (b : Bk), v = .int i ∧ bs[i]? = some b ∧ ∀ u H', Same H H' → BkAt C CB H' u b → Q u H') ∨ ((NotI K H v ∨ ∃ i : Int, v = .int i ∧ (i < 0 ∨ (bs.length : Int) ≤ i)) ∧ Rz CX "value" v H E))
def spMnIn (K : Frag) (C CB CM : Addr) : Sp := fun vs H Q _ => ∃ m v bs, vs = [m, v] ∧ MnAt C CB CM H m bs ∧ ((∃ b, BkAt C CB H v b ∧ ∀ H', Same H H' → Q (.bl (decide (b ∈ bs))) H') ∨ (NoIn K CB H v ∧ Q (.bl false) H))
def spMnAdd (K : Frag) (C CB CM CX : Addr) : Sp := fun vs H Q E => ∃ m v bs, vs = [m, v] ∧ MnAt C CB CM H m bs ∧ ((∃ cs, MnAt C CB CM H v cs ∧ (((joinB bs cs).length ≤ 64 ∧ ∀ u H', Same H H' → MnAt C CB CM H' u (joinB bs cs) → Q u H') ∨
  (∃ b, (joinB bs cs)[64]? = some b ∧ ∀ w, BkAt C CB H w b → Rz CX "value" w H E))) ∨ (NoIn K CM H v ∧ Rz CX "value" v H E))
def spMnSub (K : Frag) (C CB CM CX : Addr) : Sp := fun vs H Q E => ∃ m v bs, vs = [m, v] ∧ MnAt C CB CM H m bs ∧ ((∃ cs, MnAt C CB CM H v cs ∧ ∀ u H', Same H H' → MnAt C CB CM H' u (bs.filter fun b => !decide (b ∈ cs)) → Q u H') ∨ (NoIn K CM H v ∧ Rz CX "value" v H E))
def spMnCmp (K : Frag) (C CB CM CX : Addr) (g : List Bk → List Bk → Bool) : Sp := fun vs H Q E => ∃ m v bs, vs = [m, v] ∧ MnAt C CB CM H m bs ∧ ((∃ cs, MnAt C CB CM H v cs ∧ ∀ H', Same H H' → Q (.bl (g bs cs)) H') ∨ (NoIn K CM H v ∧ Rz CX "value" v H E))
def spMnEq (K : Frag) (C CB CM : Addr) : Sp := fun vs H Q _ => ∃ m v bs, vs = [m, v] ∧ MnAt C CB CM H m bs ∧ ((∃ cs, MnAt C CB CM H v cs ∧ ∀ H', Same H H' → Q (.bl (decide (bs = cs))) H') ∨ (NoIn K CM H v ∧ Q (.bl false) H))
abbrev CCkMn (Z : Cz) (C CB CM CX : Addr) : Prop := Cal Z (CXN Z) 2 "check_menu" ["menu"] [] (spCkMn Z.K C CB CM CX)
section
variable {Z : Cz} {f C CB CM CX P fX : Addr} {fd : FuncData}
theorem ok_ckMn (F : Fun Z.K "check_menu" "check_menu" s_check_menu f fd) (M : MnT Z CM) (TX : ExT Z.K Z.mg "BadMenu" "value" "BadMenu.__init__" CX P fX) : Z.ok (CXN Z) 2 f fd ["menu"] (spCkMn Z.K C CB CM CX) := by
  refine Fun.okN F sc_check_menu (fun vs H Q E h => ?_) (fun cdv A outer s H vs Q E hr h => ?_)
  · obtain ⟨x, rfl, _⟩ := h
    rfl
  · obtain ⟨v, rfl, h⟩ := h
    refine ⟨_, (pss_one (ps_if (pt_not (pt_val (pe_callB call_isi (by rfl) M.isi (by decide +kernel) (pa_cons (pv 0) (pa_cons (pe_glob (v := .ref CM) rfl M.mg rfl) pa_nil)))))
      (pss_one (ps_raiseX TX fl_value hr (L2N.takes_of rfl rfl rfl rfl) (pa_cons (pv 0) pa_nil) rfl))
      pss_nil)), ?_⟩
    rcases h with ⟨bs, hb, k⟩ | ⟨⟨t, ty, hk⟩, k⟩
    · obtain ⟨a, dx, l, xs, rfl, ha, _⟩ := hb
      exact ⟨_, rfl, _, _, _, _, true, rfl, .own CM, .base (.ins ha M.cl M.ha M.hn M.htk M.hm), M.kCC, _, rfl, iteF k⟩
    · exact ⟨_, rfl, _, _, _, _, false, rfl, .own CM, ty, hk, _, rfl, iteT ⟨_, rfl, _, rfl, k.now⟩⟩
theorem ok_mnLen (F : Fun Z.K "__len__" "Menu.__len__" s_Menu_dd_len f fd) (M : MnT Z CM) : Z.ok CX0 1 f fd ["self"] (spMnLen C CB CM) := by
  refine F.ok sc_Menu_dd_len (fun vs H Q E h => ?_) (fun cdv A outer s H vs Q E hr h => ?_)
  · obtain ⟨v, bs, rfl, _⟩ := h
    rfl
  · obtain ⟨v, bs, rfl, hm, k⟩ := h
    obtain ⟨a, dx, l, xs, rfl, ha, hl, hb, nd, hz⟩ := hm
    refine ⟨_, (pss_one (ps_ret (pe_callB call_len_seq (by rfl) M.len PySem.boot_len (pa_cons (pe_fld (pv 0) rfl) pa_nil)))), ?_⟩
    refine ⟨_, rfl, a, CM, dx, _, _, rfl, ha, M.cl, M.nF, rfl, l, xs, rfl, .inl (SqL.of hl), ?_⟩
    rw [hb.1]
    exact k
theorem ok_mnGet (F : Fun Z.K "__getitem__" "Menu.__getitem__" s_Menu_dd_getitem f fd) (M : MnT Z CM) (hi : Cal Z CX0 1 "is_integer" ["value"] [] (spIsInt Z.K)) (TX : ExT Z.K Z.mg "BadMenu" "value" "BadMenu.__init__" CX P fX) : Z.ok (CXN Z) 3 f fd ["self", "number"] (spMnGet Z.K C CB CM CX) := by
  refine Fun.okN F sc_Menu_dd_getitem (fun vs H Q E h => ?_) (fun cdv A outer s H vs Q E hr h => ?_)
  · obtain ⟨m, v, bs, rfl, _⟩ := h
    rfl
  · obtain ⟨m, v, bs, rfl, hm, h⟩ := h
    obtain ⟨a, dx, l, xs, rfl, ha, hl, hb, nd, hz⟩ := hm
    refine ⟨_, (pss_cons (ps_if (PW.pt (pw_or (pt_not (pt_val (pe_cal hi (hr.mono (by decide)) (by rfl) pass0 (pa_cons (pv 1) pa_nil)))) (pw_or1 (pt_not (pt_chain op_le op_lt pe_int (pv 1) (pe_callB call_len_seq (by rfl) M.len PySem.boot_len (pa_cons (pe_fld (pv 0) rfl) pa_nil)))))))
      (pss_one (ps_raiseX TX fl_value hr (L2N.takes_of rfl rfl rfl rfl) (pa_cons (pv 1) pa_nil) rfl))
      pss_nil)
      (pss_one (ps_ret (pe_ix ix_list (pe_fld (pv 0) rfl) (pv 1) (fun _ _ => rfl))))), ?_⟩
    rcases h with ⟨i, b, rfl, hi, k⟩ | ⟨hv | ⟨i, rfl, hi⟩, k⟩
    · refine ⟨_, rfl, _, _, rfl, .base (.int _), .inl ⟨rfl, _, rfl, iteF ?_⟩⟩
      have hil := (List.getElem?_eq_some_iff.mp hi).1
      obtain ⟨u, hu⟩ : ∃ u, xs[i]? = some u := ⟨xs[i]'(by rw [hb.1]; exact hil), List.getElem?_eq_getElem _⟩
      refine ⟨_, rfl, _, _, rfl, rfl, _, rfl, iteD (fun _ => ?_) (fun h1 => absurd (Int.natCast_nonneg i) h1)⟩
      refine ⟨_, rfl, a, CM, dx, _, _, rfl, ha, M.cl, M.nF, rfl, l, xs, rfl, .inl (SqL.of hl), _, _, rfl, rfl, _, rfl, ?_⟩
      rw [decide_eq_true (show ((i : Nat) : Int) < ((xs.length : Nat) : Int) by rw [hb.1]; omega)]
      refine iteF ?_
      exact ⟨_, rfl, a, CM, dx, _, _, rfl, ha, M.cl, M.nF, rfl, _, rfl, l, _, _, _, rfl, rfl, SqL.of hl, atI_nat hu, k u H (.refl _) (hb.2 i u b hu hi)⟩
    · obtain ⟨t, ty, hk⟩ := hv
      refine ⟨_, rfl, v, t, rfl, ty, ?_⟩
      rcases hk with rfl | hk
      · exact .inr (.inl ⟨rfl, _, rfl, iteT ⟨_, rfl, _, rfl, k.now⟩⟩)
      · exact .inr (.inr ⟨hk, _, rfl, iteT ⟨_, rfl, _, rfl, k.now⟩⟩)
    · refine ⟨_, rfl, _, _, rfl, .base (.int _), .inl ⟨rfl, _, rfl, iteF ?_⟩⟩
      refine ⟨_, rfl, _, _, rfl, rfl, _, rfl, iteD (fun h0 => ?_) (fun h1 => ?_)⟩
      · refine ⟨_, rfl, a, CM, dx, _, _, rfl, ha, M.cl, M.nF, rfl, l, xs, rfl, .inl (SqL.of hl), _, _, rfl, rfl, _, rfl, ?_⟩
        rw [decide_eq_false (show ¬ i < ((xs.length : Nat) : Int) by rw [hb.1]; omega)]
        exact iteT ⟨_, rfl, _, rfl, k.now⟩
      · exact ⟨_, rfl, iteT ⟨_, rfl, _, rfl, k.now⟩⟩
theorem ok_mnIn (F : Fun Z.K "__contains__" "Menu.__contains__" s_Menu_dd_contains f fd) (M : MnT Z CM) (KB : BkC Z CB) (J : BkI Z CB) (c : CBkEq Z C CB) : Z.ok CX0 11 f fd ["self", "book"] (spMnIn Z.K C CB CM) := by
  refine F.ok sc_Menu_dd_contains (fun vs H Q E h => ?_) (fun cdv A outer s H vs Q E hr h => ?_)
  · obtain ⟨m, v, bs, rfl, _⟩ := h
    rfl
  · obtain ⟨m, v, bs, rfl, hm, h⟩ := h
    obtain ⟨a, dx, l, xs, rfl, ha, hl, hb, nd, hz⟩ := hm
    refine ⟨_, (pss_one (ps_ret (pe_and (pe_callB call_isi (by rfl) M.isi (by decide +kernel) (pa_cons (pv 1) (pa_cons (pe_glob (v := .ref CB) rfl KB.mg rfl) pa_nil))) (pe_one (pe_cmpR (op_inB mon_dBk (eqB_bk c) (hr.mono (by decide))) (pv 1) (pe_fld (pv 0) rfl) (by rfl)))))), ?_⟩
    rcases h with ⟨b, hv, k⟩ | ⟨⟨t, ty, hk⟩, k⟩
    · obtain ⟨a2, dx2, d2, rfl, ha2, _⟩ := id hv
      refine ⟨_, rfl, _, _, _, _, true, rfl, .own CB, .base (.ins ha2 KB.cl J.ha J.hn J.htk J.hm), J.kCC, _, rfl, iteT ?_⟩
      exact ⟨_, rfl, _, rfl, a, CM, dx, _, _, rfl, ha, M.cl, M.nF, rfl, l, _, _, rfl, SqL.of hl, hb.in_ hv, k⟩
    · exact ⟨_, rfl, _, _, _, _, false, rfl, .own CB, ty, hk, _, rfl, iteF k⟩
theorem ok_mnAdd (F : Fun Z.K "__add__" "Menu.__add__" s_Menu_dd_add f fd) (M : MnT Z CM) (c : CBkEq Z C CB) (ck : CCkMn Z C CB CM CX) (cm : CMenu Z C CB CM CX) : Z.ok (CXN Z) 14 f fd ["self", "other"] (spMnAdd Z.K C CB CM CX) := by
  refine Fun.okN F sc_Menu_dd_add (fun vs H Q E h => ?_) (fun cdv A outer s H vs Q E hr h => ?_)
  · obtain ⟨m, v, bs, rfl, _⟩ := h
    rfl
  · obtain ⟨m, v, bs, rfl, hm, h⟩ := h
    refine ⟨_, (pss_cons (ps_expr (pe_cal ck (hr.mono (by decide)) (by rfl) (passN (L2N.takes_of rfl rfl rfl rfl)) (pa_cons (pv 1) pa_nil)))
      (pss_cons (ps_setLc (i := 2) (own := [("book", 3)]) (g := gName 3) (by rfl) sc_Menu_dd_add.nd rfl rfl (sw_true rfl rfl rfl (by decide +kernel)) (pi_list (pe_fld (pv 1) rfl)) (blkOk_by (own := [("book", 3)]) (N := ["self", "other", "more", "book"]) (sc := defScope s_Menu_dd_add) (by decide +kernel)) (fun _ _ _ _ _ => (pg_name (i := 3) sc_Menu_dd_add.nd rfl (Or.inl rfl))) (fun _ _ _ _ _ => (pts_one (pt_cmpR (show OpR _ _ (rNotInB Z.K (dBk C CB)) from op_notInB mon_dBk (eqB_bk c) (hr.mono (by decide))) (pv 3) (show PE _ _ (tFld Z.K _ "own_books") from pe_fld (pv 0) rfl) (by rfl)))) (fun _ _ _ _ _ => (pv 3)))
      (pss_one (ps_ret (pe_calCS2 cm (hr.mono (by decide)) (by rfl) (passN (L2N.takes_of rfl rfl rfl rfl)) (pe_fld (pv 0) rfl) (pv 2)))))), ?_⟩
    rcases h with ⟨cs, hv, h⟩ | ⟨hn, k⟩
    · refine ⟨_, rfl, v, rfl, .inl ⟨cs, hv, ?_⟩⟩
      obtain ⟨a, dx, l, xs, rfl, ha, hl, hb, nd, hz⟩ := hm
      obtain ⟨a2, dx2, l2, xs2, rfl, ha2, hl2, hb2, nd2, hz2⟩ := hv
      have hn2 := hb2.1
      have hn1 := hb.1
      refine ⟨_, rfl, a2, CM, dx2, _, _, rfl, ha2, M.cl, M.nF, rfl, l2, rfl, ⟨_, SqL.of hl2⟩, fun L hL => ?_⟩
      refine lcI hr_same (walk_list (K := Z.K) (a := l2) (xs := xs2)) yat (pb := cs.map fun c => !decide (c ∈ bs)) rfl (by rw [List.length_map]; exact hn2.symm) (by show 3 < 4; decide) (by omega) hL trivial (fun H2 e2 => SqL.of (e2 _ _ hl2)) ?_ (fun H2 e2 hL2 => ?_)
      · rintro j x b H2 Qb hx hbb e2 kk
        rw [List.getElem?_map] at hbb
        obtain ⟨c, hc, rfl⟩ := Option.map_eq_some_iff.mp hbb
        have hxc := (hb2.2 j x c hx hc).mono e2
        exact ⟨_, rfl, _, rfl, a, CM, dx, _, _, rfl, e2 _ _ ha, M.cl, M.nF, rfl, l, _, _, rfl, SqL.of (e2 _ _ hl), (hb.mono e2).in_ hxc, fun H3 e3 => ⟨_, rfl, kk H3 e3⟩⟩
      · have e2' : Same H H2 := e2
        have hall0 : Bks C CB H (xs ++ (selL xs2 (cs.map fun c => !decide (c ∈ bs)) ++ [])) (joinB bs cs) := by
          rw [List.append_nil]
          exact al_app hb (al_sel _ hb2)
        have hall := hall0.mono e2'
        refine ⟨_, rfl, a, CM, dx, _, _, rfl, e2 _ _ ha, M.cl, M.nF, rfl, l, xs, rfl, .inr (SqL.of (e2 _ _ hl)), _, rfl, L, _, rfl, .inr (SqL.of hL2), fun x d hx hd hne => ?_⟩
        rcases h with ⟨h64, k⟩ | ⟨b, h64, k⟩
        · exact mk_menu hx hd hne hall (joinB_nd nd nd2) h64 fun H3 e3 h3 => ⟨rfl, k _ H3 (e2'.trans e3) h3⟩
        · have h64l := (List.getElem?_eq_some_iff.mp h64).1
          have hal := hall.1
          obtain ⟨w, hw⟩ : ∃ w, (xs ++ (selL xs2 (cs.map fun c => !decide (c ∈ bs)) ++ []))[64]? = some w := ⟨_, List.getElem?_eq_getElem (by omega)⟩
          have hwb := hall.2 64 w b hw h64
          refine mk_menuX (its := (joinB bs cs).map some) (i := 64) (v := w) (bs := (joinB bs cs).take 64) hx hd hne ⟨by rw [List.length_map]; exact hal, fun i v o h1 h2 => ?_⟩ ?_ (by rw [List.map_take]) ((joinB_nd nd nd2).sublist (List.take_sublist _ _)) (by rw [List.length_take]; omega) hw ?_ ((k w ?_).later e2')
          · rw [List.getElem?_map] at h2
            obtain ⟨c, hc, rfl⟩ := Option.map_eq_some_iff.mp h2
            exact .bk (hall.2 i v c h1 hc)
          · have h1 := selL_len xs2 (cs.map fun c => !decide (c ∈ bs))
            rw [List.length_append, List.length_append]
            show _ + (_ + 0) ≤ 500
            omega
          · rw [List.getElem?_map, h64]
            exact .inr ⟨b, rfl, .inr (by rw [List.length_take]; omega)⟩
          · exact hall0.2 64 w b hw h64
    · exact ⟨_, rfl, v, rfl, .inr ⟨hn, k⟩⟩
theorem ok_mnSub (F : Fun Z.K "__sub__" "Menu.__sub__" s_Menu_dd_sub f fd) (M : MnT Z CM) (c : CBkEq Z C CB) (ck : CCkMn Z C CB CM CX) (cm : CMenu Z C CB CM CX) : Z.ok (CXN Z) 14 f fd ["self", "other"] (spMnSub Z.K C CB CM CX) := by
  refine Fun.okN F sc_Menu_dd_sub (fun vs H Q E h => ?_) (fun cdv A outer s H vs Q E hr h => ?_)
  · obtain ⟨m, v, bs, rfl, _⟩ := h
    rfl
  · obtain ⟨m, v, bs, rfl, hm, h⟩ := h
    refine ⟨_, (pss_cons (ps_expr (pe_cal ck (hr.mono (by decide)) (by rfl) (passN (L2N.takes_of rfl rfl rfl rfl)) (pa_cons (pv 1) pa_nil)))
      (pss_cons (ps_setLc (i := 2) (own := [("book", 3)]) (g := gName 3) (by rfl) sc_Menu_dd_sub.nd rfl rfl (sw_true rfl rfl rfl (by decide +kernel)) (pi_list (pe_fld (pv 0) rfl)) (blkOk_by (own := [("book", 3)]) (N := ["self", "other", "left", "book"]) (sc := defScope s_Menu_dd_sub) (by decide +kernel)) (fun _ _ _ _ _ => (pg_name (i := 3) sc_Menu_dd_sub.nd rfl (Or.inl rfl))) (fun _ _ _ _ _ => (pts_one (pt_cmpR (show OpR _ _ (rNotInB Z.K (dBk C CB)) from op_notInB mon_dBk (eqB_bk c) (hr.mono (by decide))) (pv 3) (show PE _ _ (tFld Z.K _ "own_books") from pe_fld (pv 1) rfl) (by rfl)))) (fun _ _ _ _ _ => (pv 3)))
      (pss_one (ps_ret (pe_calCS1 cm (hr.mono (by decide)) (by rfl) (passN (L2N.takes_of rfl rfl rfl rfl)) (pv 2)))))), ?_⟩
    rcases h with ⟨cs, hv, k⟩ | ⟨hn, k⟩
    · refine ⟨_, rfl, v, rfl, .inl ⟨cs, hv, ?_⟩⟩
      obtain ⟨a, dx, l, xs, rfl, ha, hl, hb, nd, hz⟩ := hm
      obtain ⟨a2, dx2, l2, xs2, rfl, ha2, hl2, hb2, nd2, hz2⟩ := hv
      have hn2 := hb2.1
      have hn1 := hb.1
      refine ⟨_, rfl, a, CM, dx, _, _, rfl, ha, M.cl, M.nF, rfl, l, rfl, ⟨_, SqL.of hl⟩, fun L hL => ?_⟩
      refine lcI hr_same (walk_list (K := Z.K) (a := l) (xs := xs)) yat (pb := bs.map fun b => !decide (b ∈ cs)) rfl (by rw [List.length_map]; exact hn1.symm) (by show 3 < 4; decide) (by omega) hL trivial (fun H2 e2 => SqL.of (e2 _ _ hl)) ?_ (fun H2 e2 hL2 => ?_)
      · rintro j x b H2 Qb hx hbb e2 kk
        rw [List.getElem?_map] at hbb
        obtain ⟨c, hc, rfl⟩ := Option.map_eq_some_iff.mp hbb
        have hxc := (hb.2 j x c hx hc).mono e2
        exact ⟨_, rfl, _, rfl, a2, CM, dx2, _, _, rfl, e2 _ _ ha2, M.cl, M.nF, rfl, l2, _, _, rfl, SqL.of (e2 _ _ hl2), (hb2.mono e2).in_ hxc, fun H3 e3 => ⟨_, rfl, kk H3 e3⟩⟩
      · have e2' : Same H H2 := e2
        have hall : Bks C CB H2 (selL xs (bs.map fun b => !decide (b ∈ cs)) ++ []) (bs.filter fun b => !decide (b ∈ cs)) := by
          rw [List.append_nil]
          exact al_sel _ (hb.mono e2')
        refine ⟨_, rfl, L, _, rfl, .inr (SqL.of hL2), fun x d hx hd hne => ?_⟩
        exact mk_menu hx hd hne hall (nd.sublist List.filter_sublist) (Nat.le_trans (List.length_filter_le _ _) hz) fun H3 e3 h3 => ⟨rfl, k _ H3 (e2'.trans e3) h3⟩
    · exact ⟨_, rfl, v, rfl, .inr ⟨hn, k⟩⟩
theorem less_all {bs cs : List Bk} : (bs.map fun b => decide (b ∈ cs)).all id = lessB bs cs := by
  unfold lessB
  rw [List.all_map]
  rfl
theorem ok_mnLe (F : Fun Z.K "__le__" "Menu.__le__" s_Menu_dd_le f fd) (M : MnT Z CM) (c : CBkEq Z C CB) (ck : CCkMn Z C CB CM CX) : Z.ok (CXN Z) 12 f fd ["self", "other"] (spMnCmp Z.K C CB CM CX fun bs cs => lessB bs cs) := by
  refine Fun.okN F sc_Menu_dd_le (fun vs H Q E h => ?_) (fun cdv A outer s H vs Q E hr h => ?_)
  · obtain ⟨m, v, bs, rfl, _⟩ := h
    rfl
  · obtain ⟨m, v, bs, rfl, hm, h⟩ := h
    refine ⟨_, (pss_cons (ps_expr (pe_cal ck (hr.mono (by decide)) (by rfl) (passN (L2N.takes_of rfl rfl rfl rfl)) (pa_cons (pv 1) pa_nil)))
      (pss_one (ps_ret (pe_callB (cr_all rfl) (by rfl) M.all (by decide +kernel) (pa_cons (pe_lc (own := [("book", 2)]) (g := gName 2) (tt := tYes) (by rfl) sc_Menu_dd_le.nd (pi_list (pe_fld (pv 0) rfl)) (blkOk_by (own := [("book", 2)]) (N := ["self", "other", "book"]) (sc := defScope s_Menu_dd_le) (by decide +kernel)) (fun _ _ _ _ _ => (pg_name (i := 2) sc_Menu_dd_le.nd rfl (Or.inl rfl))) (fun _ _ _ _ _ => pts_nil) (fun _ _ _ _ _ => (pe_cmpR (show OpR _ _ (rInB Z.K (dBk C CB)) from op_inB mon_dBk (eqB_bk c) (hr.mono (by decide))) (pv 2) (show PE _ _ (tFld Z.K _ "own_books") from pe_fld (pv 1) rfl) (by rfl)))) pa_nil))))), ?_⟩
    rcases h with ⟨cs, hv, k⟩ | ⟨hn, k⟩
    · refine ⟨_, rfl, v, rfl, .inl ⟨cs, hv, ?_⟩⟩
      obtain ⟨a, dx, l, xs, rfl, ha, hl, hb, nd, hz⟩ := hm
      obtain ⟨a2, dx2, l2, xs2, rfl, ha2, hl2, hb2, nd2, hz2⟩ := hv
      have hn1 := hb.1
      refine ⟨_, rfl, a, CM, dx, _, _, rfl, ha, M.cl, M.nF, rfl, l, rfl, ⟨_, SqL.of hl⟩, fun L hL => ?_⟩
      refine lcF hr_same (walk_list (K := Z.K) (a := l) (xs := xs)) yat (ys := (bs.map fun b => decide (b ∈ cs)).map V.bl) (by rw [List.length_map, List.length_map]; exact hn1.symm) (by omega) hL trivial (fun H2 e2 => SqL.of (e2 _ _ hl)) ?_ (fun H2 e2 hL2 => ⟨L, _, rfl, SqL.of hL2, by rw [less_all]; exact k H2 e2⟩)
      rintro j x y H2 Qe hx hy e2 kk
      rw [List.getElem?_map, List.getElem?_map] at hy
      obtain ⟨d, hd, rfl⟩ := Option.map_eq_some_iff.mp hy
      obtain ⟨b, hb', rfl⟩ := Option.map_eq_some_iff.mp hd
      exact ⟨_, rfl, _, rfl, a2, CM, dx2, _, _, rfl, e2 _ _ ha2, M.cl, M.nF, rfl, l2, _, _, rfl, SqL.of (e2 _ _ hl2), (hb2.mono e2).in_ ((hb.2 j x b hx hb').mono e2), fun H3 e3 => kk H3 e3⟩
    · exact ⟨_, rfl, v, rfl, .inr ⟨hn, k⟩⟩
theorem ok_mnGe (F : Fun Z.K "__ge__" "Menu.__ge__" s_Menu_dd_ge f fd) (M : MnT Z CM) (c : CBkEq Z C CB) (ck : CCkMn Z C CB CM CX) : Z.ok (CXN Z) 12 f fd ["self", "other"] (spMnCmp Z.K C CB CM CX fun bs cs => lessB cs bs) := by
  refine Fun.okN F sc_Menu_dd_ge (fun vs H Q E h => ?_) (fun cdv A outer s H vs Q E hr h => ?_)
  · obtain ⟨m, v, bs, rfl, _⟩ := h
    rfl
  · obtain ⟨m, v, bs, rfl, hm, h⟩ := h
    refine ⟨_, (pss_cons (ps_expr (pe_cal ck (hr.mono (by decide)) (by rfl) (passN (L2N.takes_of rfl rfl rfl rfl)) (pa_cons (pv 1) pa_nil)))
      (pss_one (ps_ret (pe_callB (cr_all rfl) (by rfl) M.all (by decide +kernel) (pa_cons (pe_lc (own := [("book", 2)]) (g := gName 2) (tt := tYes) (by rfl) sc_Menu_dd_ge.nd (pi_list (pe_fld (pv 1) rfl)) (blkOk_by (own := [("book", 2)]) (N := ["self", "other", "book"]) (sc := defScope s_Menu_dd_ge) (by decide +kernel)) (fun _ _ _ _ _ => (pg_name (i := 2) sc_Menu_dd_ge.nd rfl (Or.inl rfl))) (fun _ _ _ _ _ => pts_nil) (fun _ _ _ _ _ => (pe_cmpR (show OpR _ _ (rInB Z.K (dBk C CB)) from op_inB mon_dBk (eqB_bk c) (hr.mono (by decide))) (pv 2) (show PE _ _ (tFld Z.K _ "own_books") from pe_fld (pv 0) rfl) (by rfl)))) pa_nil))))), ?_⟩
    rcases h with ⟨cs, hv, k⟩ | ⟨hn, k⟩
    · refine ⟨_, rfl, v, rfl, .inl ⟨cs, hv, ?_⟩⟩
      obtain ⟨a, dx, l, xs, rfl, ha, hl, hb, nd, hz⟩ := hm
      obtain ⟨a2, dx2, l2, xs2, rfl, ha2, hl2, hb2, nd2, hz2⟩ := hv
      have hn1 := hb.1
      refine ⟨_, rfl, a2, CM, dx2, _, _, rfl, ha2, M.cl, M.nF, rfl, l2, rfl, ⟨_, SqL.of hl2⟩, fun L hL => ?_⟩
      refine lcF hr_same (walk_list (K := Z.K) (a := l2) (xs := xs2)) yat (ys := (cs.map fun b => decide (b ∈ bs)).map V.bl) (by rw [List.length_map, List.length_map]; exact hb2.1.symm) (by have := hb2.1; omega) hL trivial (fun H2 e2 => SqL.of (e2 _ _ hl2)) ?_ (fun H2 e2 hL2 => ⟨L, _, rfl, SqL.of hL2, by rw [less_all]; exact k H2 e2⟩)
      rintro j x y H2 Qe hx hy e2 kk
      rw [List.getElem?_map, List.getElem?_map] at hy
      obtain ⟨d, hd, rfl⟩ := Option.map_eq_some_iff.mp hy
      obtain ⟨b, hb', rfl⟩ := Option.map_eq_some_iff.mp hd
      exact ⟨_, rfl, _, rfl, a, CM, dx, _, _, rfl, e2 _ _ ha, M.cl, M.nF, rfl, l, _, _, rfl, SqL.of (e2 _ _ hl), (hb.mono e2).in_ ((hb2.2 j x b hx hb').mono e2), fun H3 e3 => kk H3 e3⟩
    · exact ⟨_, rfl, v, rfl, .inr ⟨hn, k⟩⟩
theorem ok_mnLt (F : Fun Z.K "__lt__" "Menu.__lt__" s_Menu_dd_lt f fd) (M : MnT Z CM) (c : CBkEq Z C CB) (ck : CCkMn Z C CB CM CX) : Z.ok (CXN Z) 12 f fd ["self", "other"] (spMnCmp Z.K C CB CM CX fun bs cs => decide (bs.length < cs.length) && lessB bs cs) := by
  refine Fun.okN F sc_Menu_dd_lt (fun vs H Q E h => ?_) (fun cdv A outer s H vs Q E hr h => ?_)
  · obtain ⟨m, v, bs, rfl, _⟩ := h
    rfl
  · obtain ⟨m, v, bs, rfl, hm, h⟩ := h
    refine ⟨_, (pss_cons (ps_expr (pe_cal ck (hr.mono (by decide)) (by rfl) (passN (L2N.takes_of rfl rfl rfl rfl)) (pa_cons (pv 1) pa_nil)))
      (pss_one (ps_ret (pe_and (pe_cmpR op_lt (pe_callB call_len_seq (by rfl) M.len PySem.boot_len (pa_cons (pe_fld (pv 0) rfl) pa_nil)) (pe_callB call_len_seq (by rfl) M.len PySem.boot_len (pa_cons (pe_fld (pv 1) rfl) pa_nil)) (nomark _)) (pe_one (pe_callB (cr_all rfl) (by rfl) M.all (by decide +kernel) (pa_cons (pe_lc (own := [("book", 2)]) (g := gName 2) (tt := tYes) (by rfl) sc_Menu_dd_lt.nd (pi_list (pe_fld (pv 0) rfl)) (blkOk_by (own := [("book", 2)]) (N := ["self", "other", "book"]) (sc := defScope s_Menu_dd_lt) (by decide +kernel)) (fun _ _ _ _ _ => (pg_name (i := 2) sc_Menu_dd_lt.nd rfl (Or.inl rfl))) (fun _ _ _ _ _ => pts_nil) (fun _ _ _ _ _ => (pe_cmpR (show OpR _ _ (rInB Z.K (dBk C CB)) from op_inB mon_dBk (eqB_bk c) (hr.mono (by decide))) (pv 2) (show PE _ _ (tFld Z.K _ "own_books") from pe_fld (pv 1) rfl) (by rfl)))) pa_nil))))))), ?_⟩
    rcases h with ⟨cs, hv, k⟩ | ⟨hn, k⟩
    · refine ⟨_, rfl, v, rfl, .inl ⟨cs, hv, ?_⟩⟩
      obtain ⟨a, dx, l, xs, rfl, ha, hl, hb, nd, hz⟩ := hm
      obtain ⟨a2, dx2, l2, xs2, rfl, ha2, hl2, hb2, nd2, hz2⟩ := hv
      have hn1 := hb.1
      have hn2 := hb2.1
      refine ⟨_, rfl, a, CM, dx, _, _, rfl, ha, M.cl, M.nF, rfl, l, _, rfl, .inl (SqL.of hl), _, rfl, a2, CM, dx2, _, _, rfl, ha2, M.cl, M.nF, rfl, l2, _, rfl, .inl (SqL.of hl2), _, _, rfl, rfl, _, rfl, ?_⟩
      rw [show decide (((xs.length : Nat) : Int) < ((xs2.length : Nat) : Int)) = decide (bs.length < cs.length) by rw [hn1, hn2]; exact decide_eq_decide.mpr (by omega)]
      replace k : ∀ H', Same H H' → Q (.bl (decide (bs.length < cs.length) && lessB bs cs)) H' := k
      refine iteB (fun hlt => ?_) (fun hlt => ?_)
      rotate_left
      · have k0 := k H (.refl _)
        rw [hlt, Bool.false_and] at k0
        exact k0
      rw [hlt, Bool.true_and] at k
      refine ⟨_, rfl, a, CM, dx, _, _, rfl, ha, M.cl, M.nF, rfl, l, rfl, ⟨_, SqL.of hl⟩, fun L hL => ?_⟩
      refine lcF hr_same (walk_list (K := Z.K) (a := l) (xs := xs)) yat (ys := (bs.map fun b => decide (b ∈ cs)).map V.bl) (by rw [List.length_map, List.length_map]; exact hn1.symm) (by omega) hL trivial (fun H2 e2 => SqL.of (e2 _ _ hl)) ?_ (fun H2 e2 hL2 => ⟨L, _, rfl, SqL.of hL2, by rw [less_all]; exact k H2 e2⟩)
      rintro j x y H2 Qe hx hy e2 kk
      rw [List.getElem?_map, List.getElem?_map] at hy
      obtain ⟨d, hd, rfl⟩ := Option.map_eq_some_iff.mp hy
      obtain ⟨b, hb', rfl⟩ := Option.map_eq_some_iff.mp hd
      exact ⟨_, rfl, _, rfl, a2, CM, dx2, _, _, rfl, e2 _ _ ha2, M.cl, M.nF, rfl, l2, _, _, rfl, SqL.of (e2 _ _ hl2), (hb2.mono e2).in_ ((hb.2 j x b hx hb').mono e2), fun H3 e3 => kk H3 e3⟩
    · exact ⟨_, rfl, v, rfl, .inr ⟨hn, k⟩⟩
theorem ok_mnGt (F : Fun Z.K "__gt__" "Menu.__gt__" s_Menu_dd_gt f fd) (M : MnT Z CM) (c : CBkEq Z C CB) (ck : CCkMn Z C CB CM CX) : Z.ok (CXN Z) 12 f fd ["self", "other"] (spMnCmp Z.K C CB CM CX fun bs cs => decide (cs.length < bs.length) && lessB cs bs) := by
  refine Fun.okN F sc_Menu_dd_gt (fun vs H Q E h => ?_) (fun cdv A outer s H vs Q E hr h => ?_)
  · obtain ⟨m, v, bs, rfl, _⟩ := h
    rfl
  · obtain ⟨m, v, bs, rfl, hm, h⟩ := h
    refine ⟨_, (pss_cons (ps_expr (pe_cal ck (hr.mono (by decide)) (by rfl) (passN (L2N.takes_of rfl rfl rfl rfl)) (pa_cons (pv 1) pa_nil)))
      (pss_one (ps_ret (pe_and (pe_cmpR op_lt (pe_callB call_len_seq (by rfl) M.len PySem.boot_len (pa_cons (pe_fld (pv 1) rfl) pa_nil)) (pe_callB call_len_seq (by rfl) M.len PySem.boot_len (pa_cons (pe_fld (pv 0) rfl) pa_nil)) (nomark _)) (pe_one (pe_callB (cr_all rfl) (by rfl) M.all (by decide +kernel) (pa_cons (pe_lc (own := [("book", 2)]) (g := gName 2) (tt := tYes) (by rfl) sc_Menu_dd_gt.nd (pi_list (pe_fld (pv 1) rfl)) (blkOk_by (own := [("book", 2)]) (N := ["self", "other", "book"]) (sc := defScope s_Menu_dd_gt) (by decide +kernel)) (fun _ _ _ _ _ => (pg_name (i := 2) sc_Menu_dd_gt.nd rfl (Or.inl rfl))) (fun _ _ _ _ _ => pts_nil) (fun _ _ _ _ _ => (pe_cmpR (show OpR _ _ (rInB Z.K (dBk C CB)) from op_inB mon_dBk (eqB_bk c) (hr.mono (by decide))) (pv 2) (show PE _ _ (tFld Z.K _ "own_books") from pe_fld (pv 0) rfl) (by rfl)))) pa_nil))))))), ?_⟩
    rcases h with ⟨cs, hv, k⟩ | ⟨hn, k⟩
    · refine ⟨_, rfl, v, rfl, .inl ⟨cs, hv, ?_⟩⟩
      obtain ⟨a, dx, l, xs, rfl, ha, hl, hb, nd, hz⟩ := hm
      obtain ⟨a2, dx2, l2, xs2, rfl, ha2, hl2, hb2, nd2, hz2⟩ := hv
      have hn1 := hb.1
      have hn2 := hb2.1
      refine ⟨_, rfl, a2, CM, dx2, _, _, rfl, ha2, M.cl, M.nF, rfl, l2, _, rfl, .inl (SqL.of hl2), _, rfl, a, CM, dx, _, _, rfl, ha, M.cl, M.nF, rfl, l, _, rfl, .inl (SqL.of hl), _, _, rfl, rfl, _, rfl, ?_⟩
      rw [show decide (((xs2.length : Nat) : Int) < ((xs.length : Nat) : Int)) = decide (cs.length < bs.length) by rw [hn1, hn2]; exact decide_eq_decide.mpr (by omega)]
      replace k : ∀ H', Same H H' → Q (.bl (decide (cs.length < bs.length) && lessB cs bs)) H' := k
      refine iteB (fun hlt => ?_) (fun hlt => ?_)
      rotate_left
      · have k0 := k H (.refl _)
        rw [hlt, Bool.false_and] at k0
        exact k0
      rw [hlt, Bool.true_and] at k
      refine ⟨_, rfl, a2, CM, dx2, _, _, rfl, ha2, M.cl, M.nF, rfl, l2, rfl, ⟨_, SqL.of hl2⟩, fun L hL => ?_⟩
      refine lcF hr_same (walk_list (K := Z.K) (a := l2) (xs := xs2)) yat (ys := (cs.map fun b => decide (b ∈ bs)).map V.bl) (by rw [List.length_map, List.length_map]; exact hb2.1.symm) (by have := hb2.1; omega) hL trivial (fun H2 e2 => SqL.of (e2 _ _ hl2)) ?_ (fun H2 e2 hL2 => ⟨L, _, rfl, SqL.of hL2, by rw [less_all]; exact k H2 e2⟩)
      rintro j x y H2 Qe hx hy e2 kk
      rw [List.getElem?_map, List.getElem?_map] at hy
      obtain ⟨d, hd, rfl⟩ := Option.map_eq_some_iff.mp hy
      obtain ⟨b, hb', rfl⟩ := Option.map_eq_some_iff.mp hd
      exact ⟨_, rfl, _, rfl, a, CM, dx, _, _, rfl, e2 _ _ ha, M.cl, M.nF, rfl, l, _, _, rfl, SqL.of (e2 _ _ hl), (hb.mono e2).in_ ((hb2.2 j x b hx hb').mono e2), fun H3 e3 => kk H3 e3⟩
    · exact ⟨_, rfl, v, rfl, .inr ⟨hn, k⟩⟩
theorem ok_mnEq (F : Fun Z.K "__eq__" "Menu.__eq__" s_Menu_dd_eq f fd) (M : MnT Z CM) (c : CBkEq Z C CB) : Z.ok CX0 11 f fd ["self", "other"] (spMnEq Z.K C CB CM) := by
  refine F.ok sc_Menu_dd_eq (fun vs H Q E h => ?_) (fun cdv A outer s H vs Q E hr h => ?_)
  · obtain ⟨m, v, bs, rfl, _⟩ := h
    rfl
  · obtain ⟨m, v, bs, rfl, hm, h⟩ := h
    obtain ⟨a, dx, l, xs, rfl, ha, hl, hb, nd, hz⟩ := hm
    refine ⟨_, (pss_one (ps_ret (pe_and (pe_callB call_isi (by rfl) M.isi (by decide +kernel) (pa_cons (pv 1) (pa_cons (pe_glob (v := .ref CM) rfl M.mg rfl) pa_nil))) (pe_one (pe_cmpR (op_eqL mon_dBk (eqB_bk c) (hr.mono (by decide))) (pe_fld (pv 0) rfl) (pe_fld (pv 1) rfl) (nomark _)))))), ?_⟩
    rcases h with ⟨cs, hv, k⟩ | ⟨⟨t, ty, hk⟩, k⟩
    · obtain ⟨a2, dx2, l2, xs2, rfl, ha2, hl2, hb2, nd2, hz2⟩ := hv
      refine ⟨_, rfl, _, _, _, _, true, rfl, .own CM, .base (.ins ha2 M.cl M.ha M.hn M.htk M.hm), M.kCC, _, rfl, iteT ?_⟩
      exact ⟨_, rfl, a, CM, dx, _, _, rfl, ha, M.cl, M.nF, rfl, _, rfl, a2, CM, dx2, _, _, rfl, ha2, M.cl, M.nF, rfl, l, l2, _, _, _, rfl, rfl, SqL.of hl, SqL.of hl2, LstB.of (as := bs) (bs := cs) hb.1 hb2.1 (fun i x y p q h1 h2 h3 h4 => dBk_of (hb.2 i x p h1 h3) (hb2.2 i y q h2 h4)), k⟩
    · exact ⟨_, rfl, _, _, _, _, false, rfl, .own CM, ty, hk, _, rfl, iteF k⟩
def spMnBooks (C CB CM : Addr) : SpG := fun vs H Q _ => ∃ m bs, vs = [m] ∧ MnAt C CB CM H m bs ∧ ∀ xs, Bks C CB H xs bs → Q xs H
theorem ok_mnBooks (F : Fun Z.K "books" "Menu.books" s_Menu_books f fd) (M : MnT Z CM) : GFn Z.P Z.w Z.K Z.mg Z.base 1 f fd ["self"] (spMnBooks C CB CM) := by
  refine Fun.okY F sc_Menu_books (fun vs H Q E h => ?_) (fun cdv A outer s H vs Q E pn hr h => ?_)
  · obtain ⟨m, bs, rfl, _⟩ := h
    rfl
  · obtain ⟨m, bs, rfl, hm, k⟩ := h
    obtain ⟨a, dx, l, xs, rfl, ha, hl, hb, nd, hz⟩ := hm
    refine ⟨_, (gss_cons (gs_for owns_gcx rfl (pi_list (pe_fld (pv 0) rfl)) (pg_name (i := 1) sc_Menu_books.nd rfl (Or.inl rfl))
      (gss_cons (gs_yield (pv 1))
        gss_nil))
      gss_nil), ?_⟩
    refine ⟨_, rfl, a, CM, dx, _, _, rfl, ha, M.cl, M.nF, rfl, l, rfl, ⟨_, SqL.of hl⟩, for_listG (K := Z.K) (a := l) (xs := xs) (fun i ys σ H' => (∃ o, σ = [some (.ref a), o]) ∧ H' = H ∧ ys = xs.take i) ⟨⟨_, rfl⟩, rfl, rfl⟩ ?_ ?_ ?_⟩
    · rintro i ys σ H' hi ⟨_, rfl, _⟩
      exact SqL.of hl
    · rintro i x ys σ H' hx ⟨⟨o, rfl⟩, rfl, rfl⟩
      have hi := (List.getElem?_eq_some_iff.mp hx).1
      have hn := hb.1
      refine ⟨?_, _, rfl, ⟨_, rfl⟩, rfl, (take_more' hx).symm⟩
      refine small1000' ?_
      rw [List.length_take]
      omega
    · rintro ys σ H' ⟨⟨o, rfl⟩, rfl, rfl⟩
      rw [List.take_length]
      exact k xs hb
end
end Ps

/-! The laws' lists of plans: cells, keys, plans unlike each other. -/
namespace Ps
open PySem PySem.Spec PyProof.Rows PySem.W L2

/-- a cell of the script -/
def spLCell (K : Frag) : Sp := fun vs H Q _ => ∃ (a : Addr) (ns : List Int) (i : Nat), vs = [.ref a, .int i] ∧ SqL K H a (ns.map V.int) ∧ i ≤ 1000 ∧ ∀ n, Q (.int n) H
def spLowT : Sp := fun vs H Q _ => ∃ t u : Int, vs = [.int t, .int u] ∧ 0 < u ∧ u.natAbs < 2 ^ 9000 ∧ ∀ p H', Same H H' → H' p = some (.tup [.int (low t u).1, .int (low t u).2]) → Q (.ref p) H'
/-- a drawn plan -/
def PlA (H : Hp) (v : V) (pl : Plan) : Prop := ∃ a vf va, v = .ref a ∧ PlAt H a pl vf va ∧ PlOk pl
theorem PlA.mono {H H' : Hp} {v : V} {pl : Plan} (e : Same H H') (h : PlA H v pl) : PlA H' v pl := by
  obtain ⟨a, vf, va, h1, h2, h3⟩ := h
  exact ⟨a, vf, va, h1, h2.mono e, h3⟩
theorem PlA.put {H : Hp} {D : Addr} {xs zs : List V} {v : V} {pl : Plan} (h : PlA H v pl) (hD : H D = some (.lst xs)) : PlA (upd H D (.lst zs)) v pl := by
  obtain ⟨a, vf, va, h1, h2, h3⟩ := h
  exact ⟨a, vf, va, h1, h2.keep (x := D) (Keep.of_eq fun b hb => upd_ne hb) hD, h3⟩
theorem BkAt.put {C CB : Addr} {H : Hp} {D : Addr} {xs zs : List V} {v : V} {b : Bk} (h : BkAt C CB H v b) (hD : H D = some (.lst xs)) : BkAt C CB (upd H D (.lst zs)) v b := by
  have at_ : ∀ {a : Addr} {o : HO}, H a = some o → (∀ ys, o ≠ .lst ys) → upd H D (.lst zs) a = some o := fun {a o} ha hn => by
    rw [upd_ne fun z => by rw [z, hD] at ha; exact hn _ (Option.some.inj ha).symm]
    exact ha
  have sh : ∀ {v : V} {q : Int × Int}, Sh C H v q → Sh C (upd H D (.lst zs)) v q := fun {v q} h => by
    obtain ⟨a, dx, e, ha⟩ := h
    exact ⟨a, dx, e, at_ ha fun _ z => (nomatch z)⟩
  obtain ⟨a, dx, d, rfl, ha, ⟨vo, vf, va, hds, h1, h2, h3⟩, hok⟩ := h
  refine ⟨a, dx, d, rfl, at_ ha fun _ z => (nomatch z), ⟨vo, vf, va, at_ hds fun _ z => (nomatch z), sh h1, sh h2, ?_⟩, hok⟩
  cases hb : b.after with
  | ever => rw [hb] at h3; exact h3
  | doubt q =>
    rw [hb] at h3
    obtain ⟨t, w, e, ht, hw⟩ := h3
    exact ⟨t, w, e, at_ ht fun _ z => (nomatch z), sh hw⟩
  | look i =>
    rw [hb] at h3
    obtain ⟨t, e, ht⟩ := h3
    exact ⟨t, e, at_ ht fun _ z => (nomatch z)⟩
abbrev Pls (H : Hp) (xs : List V) (ps : List Plan) : Prop := Al (fun v p => PlA H v p) xs ps
theorem Pls.mono {H H' : Hp} {xs : List V} {ps : List Plan} (e : Same H H') (h : Pls H xs ps) : Pls H' xs ps := h.imp fun _ _ q => q.mono e
theorem al_ex {α : Type} {R : V → α → Prop} : ∀ {vs : List V}, (∀ v ∈ vs, ∃ q, R v q) → ∃ qs, Al R vs qs
  | [], _ => ⟨[], Al.nil⟩
  | v :: vs, h => by
    obtain ⟨q, hq⟩ := h v List.mem_cons_self
    obtain ⟨qs, hqs⟩ := al_ex (vs := vs) fun u hu => h u (List.mem_cons_of_mem _ hu)
    exact ⟨q :: qs, al_mk hq hqs⟩
def spLPlans (K : Frag) : Sp := fun vs H Q _ => ∃ (a : Addr) (ns : List Int) (n : Nat), vs = [.ref a, .int n] ∧ SqL K H a (ns.map V.int) ∧ n ≤ 100 ∧ ∀ p H' xs ps, Same H H' → H' p = some (.lst xs) → Pls H' xs ps → ps.length = n → Q (.ref p) H'
/-- the key of a plan -/
def spLKey (K : Frag) : Sp := fun vs H Q _ => ∃ v pl, vs = [v] ∧ PlA H v pl ∧ ∀ u H', Same H H' → (∃ t : Addr, u = .ref t ∧ H t = none) → Dp K H' u (keyD (bkOfPl pl)) → Q u H'
def spLUnlike : Sp := fun vs H Q _ => ∃ p xs ps, vs = [.ref p] ∧ H p = some (.lst xs) ∧ Pls H xs ps ∧ ps.length ≤ 100 ∧ ∀ q H' ys qs, Same H H' → H' q = some (.lst ys) → Pls H' ys qs → (qs.map bkOfPl).Nodup → qs.length ≤ ps.length → (ps ≠ [] → qs ≠ []) → Q (.ref q) H'
def spLIn : Sp := fun vs H Q _ => ∃ v p xs pl ps, vs = [v, .ref p] ∧ PlA H v pl ∧ H p = some (.lst xs) ∧ Pls H xs ps ∧ ps.length ≤ 100 ∧ ∀ H', Same H H' → Q (.bl (decide (bkOfPl pl ∈ ps.map bkOfPl))) H'
def spLMenu (C CB CM : Addr) : Sp := fun vs H Q _ => ∃ p xs bs, vs = [.ref p] ∧ H p = some (.lst xs) ∧ Bks C CB H xs bs ∧ bs.Nodup ∧ bs.length ≤ 64 ∧ ∀ u H', Same H H' → MnAt C CB CM H' u bs → Q u H'
section
variable {Z : Cz} {f C CB CM CX : Addr} {fd : FuncData}
theorem ok_lwCell (F : Fun Z.K "_law_cell" "_law_cell" s_lw_cell f fd) (T : DrT Z) : Z.ok CX0 1 f fd ["_law_script", "_law_k"] (spLCell Z.K) := by
  refine F.ok sc_lw_cell (fun vs H Q E h => ?_) (fun cdv A outer s H vs Q E hr h => ?_)
  · obtain ⟨a, ns, i, rfl, _⟩ := h
    rfl
  · obtain ⟨a, ns, i, rfl, hS, hi, k⟩ := h
    refine ⟨_, (pss_one (ps_ret (pe_ifExp (pt_cmpR op_lt (pv 1) (pe_callB call_len_seq (by rfl) T.len PySem.boot_len (pa_cons (pv 0) pa_nil)) (nomark _)) (pe_ix ix_list (pv 0) (pv 1) (fun _ _ => rfl)) (pe_op op_add (pe_op op_mul pe_int (pv 1)) pe_int)))), ?_⟩
    refine ⟨_, rfl, _, rfl, a, _, rfl, .inl hS, _, _, rfl, rfl, _, rfl, iteD (fun h => ?_) (fun h => ?_)⟩
    · have hlt : i < (ns.map V.int).length := by omega
      obtain ⟨n, hn⟩ : ∃ n, ns[i]? = some n := ⟨ns[i]'(by simpa using hlt), List.getElem?_eq_getElem _⟩
      refine ⟨_, rfl, _, rfl, a, _, _, _, rfl, rfl, hS, ?_, k n⟩
      have hl := (List.getElem?_eq_some_iff.mp hn).1
      unfold atI ixN
      rw [if_pos (by omega), if_pos (by omega)]
      simp [List.getElem?_map, hn]
    · exact ⟨_, rfl, _, _, rfl, rfl, .inl ⟨by decide, by decide⟩, _, _, rfl, rfl, k _⟩
theorem ok_lowT (F : Fun Z.K "_law_lowest" "_law_lowest" s_lw_lowest f fd) (ha : Z.mg "abs" = none) : Z.ok CX0 1 f fd ["_law_top", "_law_under"] spLowT := by
  refine F.ok sc_lw_lowest (fun vs H Q E h => ?_) (fun cdv A outer s H vs Q E hr h => ?_)
  · obtain ⟨a, b, rfl, _⟩ := h
    rfl
  · obtain ⟨a, b, rfl, hu, hb, k⟩ := h
    refine ⟨_, (pss_cons (ps_par (i := 2) (j := 3) (by rfl) sc_lw_lowest.nd rfl rfl (by decide) rfl rfl (pa_cons (pe_callB call_abs (by rfl) ha (by decide +kernel) (pa_cons (pv 0) pa_nil)) (pa_cons (pv 1) pa_nil)) (by rfl))
      (pss_cons (ps_while PassesOwn.never (pt_cmpR op_ne (pv 3) pe_int (nomark _))
      (pss_one (ps_par (i := 2) (j := 3) (by rfl) sc_lw_lowest.nd rfl rfl (by decide) rfl rfl (pa_cons (pv 3) (pa_cons (pe_op op_mod (pv 2) (pv 3)) pa_nil)) (by rfl))))
      (pss_one (ps_ret (pe_tup (pa_cons (pe_op op_fdivG (pv 0) (pv 2)) (pa_cons (pe_op op_fdivG (pv 1) (pv 2)) pa_nil))))))), ?_⟩
    refine ⟨_, rfl, _, rfl, _, rfl, _, _, rfl, ?_⟩
    refine while_by (fun σ H' => ∃ x y : Int, σ = [some (.int a), some (.int b), some (.int x), some (.int y)] ∧ H' = H ∧ 0 ≤ x ∧ 0 ≤ y ∧ Int.gcd x y = Int.gcd a b) (fun σ _ => match σ with | [_, _, _, some (.int y)] => y.toNat | _ => 0)
      ⟨_, _, rfl, rfl, ?_, ?_, ?_⟩ (fun σ H1 z => ?_) (fun σ H1 Q Q' m z => ?_)
    · split <;> omega
    · omega
    · rw [show (if a < 0 then -a else a) = ((a.natAbs : Nat) : Int) by split <;> omega]
      rfl
    · obtain ⟨x, y, rfl, rfl, hx, hy, e⟩ := z
      refine ⟨_, rfl, rfl, _, rfl, ?_⟩
      rw [show decide (V.int y = V.int 0) = decide (y = 0) from decide_eq_decide.mpr ⟨V.int.inj, fun z => by rw [z]⟩]
      refine iteND (fun hy0 => ?_) (fun hy0 => ?_)
      · refine ⟨_, rfl, _, rfl, _, rfl, _, _, rfl, rfl, (by show (0 : Int) < y; omega), _, _, rfl, ?_⟩
        have h1 := Int.emod_nonneg x (show y ≠ 0 by omega)
        have h2 := Int.emod_lt_of_pos x (show 0 < y by omega)
        refine ⟨⟨_, _, rfl, rfl, hy, h1, ?_⟩, ?_⟩
        · rw [← e]
          exact gcd_step hx hy
        · show (x % y).toNat < y.toNat
          omega
      · have hy1 : y = 0 := by omega
        subst hy1
        have e2 : Int.gcd x 0 = x.natAbs := Int.gcd_zero_right ..
        rw [e2] at e
        have e3 : x = (Int.gcd a b : Int) := by omega
        subst e3
        have hG0 : lowG a b = (Int.gcd a b : Int) := by
          unfold lowG
          rw [if_neg (by omega)]
        have hG : CDivG a (Int.gcd a b : Int) ∧ CDivG b (Int.gcd a b : Int) := by
          rw [← hG0]
          have z := fun c => divG (i := c) (b := 9000) (lowG_ne (t := a) (u := b) (by omega)) (Nat.lt_of_le_of_lt (by rw [lowG_abs]; exact Int.gcd_le_natAbs_right a (by omega)) hb) (by decide) (Nat.le_refl _)
          exact ⟨z a, z b⟩
        refine ⟨_, rfl, _, rfl, _, _, rfl, rfl, hG.1, _, rfl, _, rfl, _, _, rfl, rfl, hG.2, (by show 2 ≤ sizeLine; decide), fun p hp => ?_⟩
        have k2 := k p _ (Same.upd (o := .tup [.int (low a b).1, .int (low a b).2]) hp) upd_same
        unfold low at k2
        rw [hG0] at k2
        exact k2
    · obtain ⟨v, hv, h1, b, hb, z2⟩ := z
      exact ⟨v, hv, h1, b, hb, m _ _ z2⟩
theorem ok_lwPlans (F : Fun Z.K "_law_plans" "_law_plans" s_lw_plans f fd) (T : DrT Z) (c_lw_cell : Cal Z CX0 1 "_law_cell" ["_law_script", "_law_k"] [] (spLCell Z.K)) (c_lw_pool : Cal Z CX0 2 "_law_pool" ["_law_cell_here", "_law_salt", "_law_many"] [] spPool) (c_lw_plan : Cal Z CX0 3 "_law_plan" ["_law_pool_here", "_law_most"] [] spLPlan) :
    Z.ok CX0 4 f fd ["_law_script", "_law_many"] (spLPlans Z.K) := by
  refine F.ok sc_lw_plans (fun vs H Q E h => ?_) (fun cdv A outer s H vs Q E hr h => ?_)
  · obtain ⟨a, ns, n, rfl, _⟩ := h
    rfl
  · obtain ⟨a, ns, n, rfl, hS, hn, k⟩ := h
    refine ⟨_, (pss_one (ps_ret (pe_lc (own := [("_law_k", 2)]) (g := gName 2) (tt := tYes) (by rfl) sc_lw_plans.nd (pi_range1 (by rfl) T.range (pa_cons (pv 1) pa_nil)) (blkOk_by (own := [("_law_k", 2)]) (N := ["_law_script", "_law_many", "_law_k"]) (sc := defScope s_lw_plans) (by decide +kernel)) (fun _ _ _ _ _ => (pg_name (i := 2) sc_lw_plans.nd rfl (Or.inl rfl))) (fun _ _ _ _ _ => pts_nil) (fun _ _ _ _ _ => (pe_cal c_lw_plan (hr.mono (by decide)) (by rfl) pass0 (pa_cons (pe_cal c_lw_pool (hr.mono (by decide)) (by rfl) pass0 (pa_cons (pe_cal c_lw_cell (hr.mono (by decide)) (by rfl) pass0 (pa_cons (pv 0) (pa_cons (pe_op op_add (pv 2) pe_int) pa_nil))) (pa_cons (pe_op op_add (pv 2) pe_int) (pa_cons pe_int pa_nil)))) (pa_cons pe_int pa_nil))))))), ?_⟩
    refine ⟨_, rfl, n, rfl, by omega, by omega, fun D hD => ?_⟩
    refine lcR hr_same (walk_range (lo := 0) (n := ((n : Nat) : Int).toNat)) yfn (bs := List.replicate n ()) (fun y _ H' => ∃ pl, PlA H' y pl) (by rw [List.length_replicate]; omega) (by omega) hD trivial (fun _ _ => trivial) (fun y _ H2 H3 ⟨pl, h⟩ e => ⟨pl, h.mono e⟩) (fun y _ H2 xs zs ⟨pl, h⟩ hD2 => ⟨pl, h.put hD2⟩) ?_ ?_
    · rintro j x _ H2 acc Qe rfl hb e2 hD2 kk
      have hj : j < n := by
        have := (List.getElem?_eq_some_iff.mp hb).1
        rw [List.length_replicate] at this
        exact this
      refine ⟨_, rfl, _, rfl, _, _, rfl, rfl, a, ns, j + 1, ?_, (e2.seq hS), by omega, fun c => ?_⟩
      · show [V.ref a, V.int (0 + ((j : Nat) : Int) + 1)] = [V.ref a, V.int ((j + 1 : Nat) : Int)]
        rw [show (0 + ((j : Nat) : Int) + 1) = ((j + 1 : Nat) : Int) by omega]
      refine ⟨_, rfl, _, _, rfl, rfl, c, 0 + ((j : Nat) : Int) + 5, 20, rfl, by omega, by omega, by decide, by decide, fun p q H3 ms e3 hp hq P0 => ?_⟩
      refine ⟨p, q, ms, 0, 2, rfl, P0, by decide, by decide, by decide, fun ap H4 pl vf va jj k4 ha4 P4 hj4 hpl hok => ?_⟩
      exact kk _ H4 (Keep.same e3 hp k4) ⟨pl, ap, vf, va, rfl, hpl, hok⟩
    · rintro H2 ys e2 hD2 al
      obtain ⟨ps, hps⟩ : ∃ ps, Pls H2 ys ps := al_ex fun v hv => by
        obtain ⟨i, hi⟩ := List.getElem?_of_mem hv
        obtain ⟨b, hb, h⟩ := al.get hi
        exact h
      refine k D H2 ys ps e2 hD2 hps ?_
      rw [← hps.1, al.1, List.length_replicate]
theorem ok_lwKey (F : Fun Z.K "_law_key" "_law_key" s_lw_key f fd) (c_lw_lowest : Cal Z CX0 1 "_law_lowest" ["_law_top", "_law_under"] [] spLowT) : Z.ok CX0 2 f fd ["_law_plan_here"] (spLKey Z.K) := by
  refine F.ok sc_lw_key (fun vs H Q E h => ?_) (fun cdv A outer s H vs Q E hr h => ?_)
  · obtain ⟨v, pl, rfl, _⟩ := h
    rfl
  · obtain ⟨v, pl, rfl, hp, k⟩ := h
    obtain ⟨a, vf, va, rfl, hp, ho⟩ := hp
    refine ⟨_, (pss_cons (ps_set (i := 1) sc_lw_key.nd rfl (Or.inl rfl) (pe_cal c_lw_lowest (hr.mono (by decide)) (by rfl) pass0 (pa_cons (pe_dget (hu_of hr) (pv 0) pe_str (fun _ _ => rfl)) (pa_cons pe_int pa_nil))))
      (pss_cons (ps_set (i := 2) sc_lw_key.nd rfl (Or.inl rfl) (pe_cal c_lw_lowest (hr.mono (by decide)) (by rfl) pass0 (pa_cons (pe_ix ix_tup (pe_dget (hu_of hr) (pv 0) pe_str (fun _ _ => rfl)) pe_int (fun _ _ => rfl)) (pa_cons (pe_ix ix_tup (pe_dget (hu_of hr) (pv 0) pe_str (fun _ _ => rfl)) pe_int (fun _ _ => rfl)) pa_nil))))
      (pss_cons (ps_set (i := 3) sc_lw_key.nd rfl (Or.inl rfl) (pe_dget (hu_of hr) (pv 0) pe_str (fun _ _ => rfl)))
      (C8.pss_cut (ps_if (pt_cmpR op_eq (pe_ix ix_tup (pv 3) pe_int (fun _ _ => rfl)) pe_str (nomark _))
      (pss_one (ps_set (i := 3) sc_lw_key.nd rfl (Or.inl rfl) (pe_tup (pa_cons pe_str (pa_cons (pe_cal c_lw_lowest (hr.mono (by decide)) (by rfl) pass0 (pa_cons (pe_ix ix_tup (pe_ix ix_tup (pv 3) pe_int (fun _ _ => rfl)) pe_int (fun _ _ => rfl)) (pa_cons (pe_ix ix_tup (pe_ix ix_tup (pv 3) pe_int (fun _ _ => rfl)) pe_int (fun _ _ => rfl)) pa_nil))) pa_nil)))))
      pss_nil)
      (pss_one (ps_ret (pe_tup (pa_cons (pe_dget (hu_of hr) (pv 0) pe_str (fun _ _ => rfl)) (pa_cons (pv 1) (pa_cons (pv 2) (pa_cons (pe_dget (hu_of hr) (pv 0) pe_str (fun _ _ => rfl)) (pa_cons (pe_dget (hu_of hr) (pv 0) pe_str (fun _ _ => rfl)) (pa_cons (pv 3) (pa_cons (pe_dget (hu_of hr) (pv 0) pe_str (fun _ _ => rfl)) pa_nil)))))))))))))), ?_⟩
    obtain ⟨tf, rfl, htf⟩ := hp.f
    obtain ⟨f1, f2, f3, f4⟩ := factor_ok ho.fc
    have f5 : 0 < pl.factor.2 := by
      have := ho.fc
      simp only [factors, List.mem_cons, List.not_mem_nil, or_false] at this
      rcases this with h | h | h | h <;> rw [h] <;> decide
    have sm : ∀ {i : Int}, i.natAbs < 100 → i.natAbs < 2 ^ 9000 := fun h => lt_up (m := 10) (by omega) (by decide)
    refine ⟨_, rfl, a, _, rfl, pl_get hp "told" rfl, pl.told, 6, rfl, by decide, by decide, fun p1 H1 e1 h1 => ?_⟩
    have hp1 := hp.mono e1
    have htf1 := e1 _ _ htf
    refine ⟨_, rfl, a, _, rfl, pl_get hp1 "factor" rfl, tf, _, _, _, rfl, rfl, SqT.of htf1, rfl, _, rfl, a, _, rfl, pl_get hp1 "factor" rfl, tf, _, _, _, rfl, rfl, SqT.of htf1, rfl, pl.factor.1, pl.factor.2, rfl, f5, sm f3, fun p2 H2 e2 h2 => ?_⟩
    have hp2 := hp1.mono e2
    have e12 := e1.trans e2
    refine ⟨_, rfl, a, _, rfl, pl_get hp2 "after" rfl, ?_⟩
    refine ⟨fun σ' H' => ∃ vb, σ' = [some (.ref a), some (.ref p1), some (.ref p2), some vb] ∧ Same H2 H' ∧ Dp Z.K H' vb (endD (afOf pl.after)), ?_, ?_⟩
    · have hv := hp2.a
      cases hpa : pl.after with
      | ever =>
        rw [hpa] at hv
        obtain ⟨t, rfl, ht⟩ := hv
        refine ⟨_, rfl, t, _, _, _, rfl, rfl, SqT.of ht, rfl, rfl, _, rfl, iteF ⟨_, rfl, .refl _, ?_⟩⟩
        exact .tup (SqT.of ht) (.cons (.str _) .nil)
      | doubt q =>
        rw [hpa] at hv
        obtain ⟨t, u, rfl, ht, hu⟩ := hv
        have hq := ho.af
        rw [hpa] at hq
        obtain ⟨q1, q2, q3, q4⟩ := doubt_ok hq
        have q5 : 0 < q.2 := by
          have hq' : q ∈ doubts := hq
          simp only [doubts, List.mem_cons, List.not_mem_nil, or_false] at hq'
          rcases hq' with h | h | h | h | h <;> rw [h] <;> decide
        refine ⟨_, rfl, t, _, _, _, rfl, rfl, SqT.of ht, rfl, rfl, _, rfl, iteT ?_⟩
        refine ⟨_, rfl, t, _, _, _, rfl, rfl, SqT.of ht, rfl, u, _, _, _, rfl, rfl, SqT.of hu, rfl, _, rfl, t, _, _, _, rfl, rfl, SqT.of ht, rfl, u, _, _, _, rfl, rfl, SqT.of hu, rfl, q.1, q.2, rfl, q5, sm q3, fun p3 H3 e3 h3 => ?_⟩
        refine ⟨(by show 2 ≤ sizeLine; decide), fun p4 hp4 => ⟨_, rfl, e3.trans (Same.upd hp4), ?_⟩⟩
        refine .tup (SqT.of upd_same) (.cons (.str _) (.cons ?_ .nil))
        exact .tup (SqT.of ((Same.upd hp4) _ _ h3)) (.cons (.int _) (.cons (.int _) .nil))
      | look i =>
        rw [hpa] at hv
        obtain ⟨t, rfl, ht⟩ := hv
        refine ⟨_, rfl, t, _, _, _, rfl, rfl, SqT.of ht, rfl, rfl, _, rfl, iteF ⟨_, rfl, .refl _, ?_⟩⟩
        exact .tup (SqT.of ht) (.cons (.str _) (.cons (.int _) .nil))
    · rintro σ' H3 ⟨vb, rfl, e3, hd⟩
      have hp3 := hp2.mono e3
      refine ⟨_, rfl, a, _, rfl, pl_get hp3 "tries" rfl, _, rfl, _, rfl, _, rfl, a, _, rfl, pl_get hp3 "equal" rfl, _, rfl, a, _, rfl, pl_get hp3 "sliding" rfl, _, rfl, _, rfl, a, _, rfl, pl_get hp3 "keep" rfl, (by show 7 ≤ sizeLine; decide), fun p4 hp4 => ?_⟩
      have e4 := Same.upd (o := .tup [trV pl.tries, .ref p1, .ref p2, .bl pl.equal, .bl pl.sliding, vb, .bl pl.keep]) hp4
      refine k _ _ (e12.trans (e3.trans e4)) ⟨p4, rfl, (e12.trans e3).free hp4⟩ ?_
      have dt : Dp Z.K (upd H3 p4 (.tup [trV pl.tries, .ref p1, .ref p2, .bl pl.equal, .bl pl.sliding, vb, .bl pl.keep])) (trV pl.tries) (trD pl.tries) := by
        cases pl.tries with
        | none => exact .non
        | some i => exact .int i
      exact .tup (SqT.of upd_same) (.cons dt (.cons (.tup (SqT.of (e4 _ _ (e3 _ _ (e2 _ _ h1)))) (.cons (.int _) (.cons (.int _) .nil))) (.cons (.tup (SqT.of (e4 _ _ (e3 _ _ h2))) (.cons (.int _) (.cons (.int _) .nil)))
        (.cons (.bl _) (.cons (.bl _) (.cons (Dp.mono e4 hd) (.cons (.bl _) .nil)))))))
end
end Ps

/-! Plans unlike each other; menus made by +. -/
namespace Ps
open PySem PySem.Spec PyProof.Rows PySem.W L2

mutual
def noL : PyData → Bool
  | .list _ => false
  | .dict _ => false
  | .tuple xs => noLs xs
  | _ => true
def noLs : List PyData → Bool
  | [] => true
  | x :: r => noL x && noLs r
end
mutual
theorem Dp.tups {K : Frag} {H H' : Hp} (e : ∀ a xs, SqT K H a xs → SqT K H' a xs) : ∀ {v : V} {d : PyData}, Dp K H v d → noL d = true → Dp K H' v d
  | _, _, .non, _ => .non
  | _, _, .bl b, _ => .bl b
  | _, _, .int i, _ => .int i
  | _, _, .str x, _ => .str x
  | _, _, .lst h a, n => by simp [noL] at n
  | _, _, .tup h a, n => .tup (e _ _ h) (DpAll.tups e a (by simpa [noL] using n))
theorem DpAll.tups {K : Frag} {H H' : Hp} (e : ∀ a xs, SqT K H a xs → SqT K H' a xs) : ∀ {vs : List V} {ds : List PyData}, DpAll K H vs ds → noLs ds = true → DpAll K H' vs ds
  | _, _, .nil, _ => .nil
  | _, _, .cons h a, n => by
    have n2 := (Bool.and_eq_true _ _).mp (by simpa [noLs] using n)
    exact .cons (Dp.tups e h n2.1) (DpAll.tups e a n2.2)
end
theorem noL_key (b : Bk) : noL (keyD b) = true := by
  obtain ⟨t, q, r, e, s, a, k⟩ := b
  cases t <;> cases a <;> simp [keyD, trD, pairD, endD, noL, noLs]
theorem sqt_put {K : Frag} {H : Hp} {D : Addr} {xs zs : List V} (hD : H D = some (.lst xs)) : ∀ a ys, SqT K H a ys → SqT K (upd H D (.lst zs)) a ys := fun a ys h => by
  rcases h with (h | ⟨o, h⟩) | h
  · exact .inl (.inl (by rw [upd_ne fun z => by rw [z, hD] at h; cases h]; exact h))
  · exact .inl (.inr ⟨o, by rw [upd_ne fun z => by rw [z, hD] at h; cases h]; exact h⟩)
  · exact .inr h
theorem al_dp {K : Frag} {H : Hp} {α : Type} {g : α → PyData} : ∀ {ys : List V} {qs : List α}, Al (fun y q => Dp K H y (g q)) ys qs → DpAll K H ys (qs.map g)
  | [], [], _ => .nil
  | [], _ :: _, h => by have := h.1; simp at this
  | _ :: _, [], h => by have := h.1; simp at this
  | y :: ys, q :: qs, h => .cons (al_cons h).1 (al_dp (al_cons h).2)
theorem mn_ty {Z : Cz} {C CB CM : Addr} {H : Hp} {v : V} {bs : List Bk} (M : MnT Z CM) (h : MnAt C CB CM H v bs) : TyX Z.K H v (.ref CM) := by
  obtain ⟨a, dx, l, xs, rfl, ha, _⟩ := h
  exact .base (.ins ha M.cl M.ha M.hn M.htk M.hm)
theorem nd_take {bs : List Bk} (nd : bs.Nodup) {i : Nat} {b : Bk} (hb : bs[i]? = some b) : b ∉ bs.take i := fun z => by
  have hi := (List.getElem?_eq_some_iff.mp hb).1
  obtain ⟨j, hj, he⟩ := List.mem_take_iff_getElem.mp z
  have hj2 : bs[i] = b := by
    have := List.getElem?_eq_getElem (l := bs) (i := i) hi
    rw [hb] at this
    exact (Option.some.inj this).symm
  exact List.pairwise_iff_getElem.mp nd j i (by omega) hi (by omega) (he.trans hj2.symm)
theorem joinB_take {bs : List Bk} (nd : bs.Nodup) {i : Nat} {b : Bk} (hb : bs[i]? = some b) : joinB (bs.take i) [b] = bs.take (i + 1) := by
  have h := nd_take nd hb
  unfold joinB
  rw [take_more' hb]
  simp [h]
abbrev CKeyL (Z : Cz) : Prop := Cal Z CX0 2 "_law_key" ["_law_plan_here"] [] (spLKey Z.K)
section
variable {Z : Cz} {f C CB CM CX : Addr} {fd : FuncData}
theorem ok_lwUnlike (F : Fun Z.K "_law_unlike" "_law_unlike" s_lw_unlike f fd) (c_lw_key : CKeyL Z) : Z.ok CX0 4 f fd ["_law_plans_here"] spLUnlike := by
  refine F.ok sc_lw_unlike (fun vs H Q E h => ?_) (fun cdv A outer s H vs Q E hr h => ?_)
  · obtain ⟨p, xs, ps, rfl, _⟩ := h
    rfl
  · obtain ⟨p, xs, ps, rfl, hp, hps, hz, k⟩ := h
    have hu : ∀ {A' : Around}, A'.units = (A.deeper (envOfC "_law_unlike" (defScope s_lw_unlike) s.heap.objs.size f cdv)).units → A'.units + 65 < cLine := fun e => by rw [e]; have := hr.un; omega
    refine ⟨_, (pss_cons (ps_set (i := 1) sc_lw_unlike.nd rfl (Or.inl rfl) (pe_lst pa_nil))
      (pss_cons (ps_for PassesOwn.never rfl (pi_list (pv 0)) (pg_name (i := 2) sc_lw_unlike.nd rfl (Or.inl rfl))
      (pss_one (ps_if (pt_cmpR (op_notInD (hu rfl)) (pe_cal c_lw_key (hr.mono (by decide)) (by rfl) pass0 (pa_cons (pv 2) pa_nil)) (pe_lc (own := [("_law_other", 3)]) (g := gName 3) (tt := tYes) (by rfl) sc_lw_unlike.nd (pi_list (pv 1)) (blkOk_by (own := [("_law_other", 3)]) (N := ["_law_plans_here", "_law_found", "_law_plan_here", "_law_other"]) (sc := defScope s_lw_unlike) (by decide +kernel)) (fun _ _ _ _ _ => (pg_name (i := 3) sc_lw_unlike.nd rfl (Or.inl rfl))) (fun _ _ _ _ _ => pts_nil) (fun _ _ _ _ _ => (pe_cal c_lw_key (hr.mono (by decide)) (by rfl) pass0 (pa_cons (pv 3) pa_nil)))) (by rfl))
        (pss_one (ps_expr (pe_bm PySem.F.plainAttrs_list PySem.F.slot_list_append PySem.F.type_list_append mt_append (pv 1) (pa_cons (pv 2) pa_nil))))
        pss_nil)))
      (pss_one (ps_ret (pv 1))))), ?_⟩
    refine ⟨(by show 0 ≤ sizeLine; decide), fun L hL => ?_⟩
    have e0 := Same.upd (o := .lst []) hL
    refine ⟨_, rfl, p, rfl, ⟨_, SqL.of (e0 _ _ hp)⟩, for_list (K := Z.K) (a := p) (xs := xs) (fun i σ H' => ∃ o2 o3 ys qs, σ = [some (.ref p), some (.ref L), o2, o3] ∧ Same H H' ∧ H' L = some (.lst ys) ∧ Pls H' ys qs ∧ (qs.map bkOfPl).Nodup ∧ qs.length ≤ i ∧ (0 < i → qs ≠ [])) ⟨_, _, [], [], rfl, e0, upd_same, Al.nil, by simp, Nat.le_refl _, fun z => absurd z (Nat.lt_irrefl _)⟩ ?_ ?_ ?_⟩
    · rintro i σ H' hi ⟨o2, o3, ys, qs, rfl, e, _⟩
      exact SqL.of (e _ _ hp)
    · rintro i y σ H1 hy ⟨o2, o3, ys, qs, rfl, e1, hL1, hq, nd, hql, hne⟩
      obtain ⟨pl, hpl, hyp⟩ := hps.get hy
      have hi := (List.getElem?_eq_some_iff.mp hpl).1
      have hLp : L ≠ p := fun z => by rw [z, hp] at hL; cases hL
      refine ⟨_, rfl, y, pl, rfl, hyp.mono e1, fun u H2 e2 hut hu2 => ?_⟩
      have hL2 := e2 _ _ hL1
      refine ⟨_, rfl, L, rfl, ⟨_, SqL.of hL2⟩, fun D hD => ?_⟩
      have hq2 := hq.mono e2
      refine lcR hr_same (walk_list (K := Z.K) (a := L) (xs := ys)) yat (bs := qs) (fun v q H' => Dp Z.K H' v (keyD (bkOfPl q))) hq.1.symm (by have := hq.1; omega) hD trivial (fun H3 e3 => SqL.of (e3 _ _ hL2)) (fun v q H3 H4 h e => Dp.mono e h) (fun v q H3 as zs h hD3 => Dp.tups (sqt_put hD3) h (noL_key _)) ?_ ?_
      · rintro j x q H3 acc Qe hx hb e3 hD3 kk
        refine ⟨_, rfl, x, q, rfl, (hq2.2 j x q hx hb).mono e3, fun u2 H4 e4 _ h4 => kk u2 H4 e4 h4⟩
      · rintro H3 ds e3 hD3 al
        have e3' : Same H2 H3 := e3
        have hds : Dp Z.K H3 (.ref D) (.list (qs.map fun q => keyD (bkOfPl q))) := .lst (SqL.of hD3) (al_dp al)
        rw [show (qs.map fun q => keyD (bkOfPl q)) = (qs.map bkOfPl).map keyD by rw [List.map_map]; rfl] at hds
        refine ⟨_, _, Dp.mono e3' hu2, hds, shaped_key _, shaped_keys _, _, rfl, ?_⟩
        rw [any_key]
        have q3 := hq2.mono e3'
        have hL3 := e3' _ _ hL2
        have e03 := e1.trans (e2.trans e3')
        by_cases hm : bkOfPl pl ∈ qs.map bkOfPl
        · rw [decide_eq_true hm]
          refine iteF ⟨_, _, ys, qs, rfl, e03, hL3, q3, nd, by omega, fun _ z => ?_⟩
          rw [z] at hm
          cases hm
        · rw [decide_eq_false hm]
          refine iteT ⟨_, rfl, .inl ⟨rfl, _, SqL.of hL3⟩, _, rfl, L, _, _, rfl, rfl, hL3, small1000' (by have := q3.1; omega), ?_⟩
          have hyn : PlA H3 y pl := ((hyp.mono e1).mono e2).mono e3'
          refine ⟨_, _, ys ++ [y], qs ++ [pl], rfl, ?_, upd_same, ?_, ?_, by rw [List.length_append]; show _ + 1 ≤ _; omega, fun _ z => by simp at z⟩
          · intro b o hb
            rw [upd_ne (ne_of_none hb hL)]
            exact e03 _ _ hb
          · exact (al_app q3 (al_mk hyn Al.nil)).imp fun v q h => h.put hL3
          · rw [List.map_append, List.nodup_append]
            refine ⟨nd, by simp, fun a ha b hb => ?_⟩
            have hb' : b = bkOfPl pl := by simpa using hb
            subst hb'
            intro z
            exact hm (z ▸ ha)
    · rintro σ H1 ⟨o2, o3, ys, qs, rfl, e1, hL1, hq, nd, hql, hne⟩
      have := hps.1
      refine ⟨_, rfl, k L H1 ys qs e1 hL1 hq nd (by omega) fun h => hne ?_⟩
      have := List.length_pos_iff.mpr h
      omega
theorem ok_lwMenu (F : Fun Z.K "_law_menu" "_law_menu" s_lw_menu f fd) (M : MnT Z CM) (cm : CMenu Z C CB CM CX) (ca : CalS Z (CXN Z) 14 CM "__add__" ["self", "other"] (spMnAdd Z.K C CB CM CX)) (N : Rfl Z.K CM "add") : Z.ok (CXN Z) 15 f fd ["_law_books"] (spLMenu C CB CM) := by
  refine Fun.okN F sc_lw_menu (fun vs H Q E h => ?_) (fun cdv A outer s H vs Q E hr h => ?_)
  · obtain ⟨p, xs, bs, rfl, _⟩ := h
    rfl
  · obtain ⟨p, xs, bs, rfl, hp, hb, nd, hz, k⟩ := h
    refine ⟨_, (pss_cons (ps_set (i := 1) sc_lw_menu.nd rfl (Or.inl rfl) (pe_calCR0 cm (hr.mono (by decide)) (by rfl) (passN (L2N.takes_of rfl rfl rfl rfl))))
      (pss_cons (ps_for (passes_of rfl) rfl (pi_list (pv 0)) (pg_name (i := 2) sc_lw_menu.nd rfl (Or.inl rfl))
      (pss_one (ps_set (i := 1) sc_lw_menu.nd rfl (Or.inl rfl) (pe_op (op_bin (op := .Add) ca N (hr.mono (by decide)) (passN (L2N.takes_of rfl rfl rfl rfl))) (pv 1) (pe_calCR cm (hr.mono (by decide)) (by rfl) (passN (L2N.takes_of rfl rfl rfl rfl)) (pa_cons (pv 2) pa_nil))))))
      (pss_one (ps_ret (pv 1))))), ?_⟩
    intro x dx hx hdx hne
    refine mk_menu hx hdx hne (ys := []) (bs := []) Al.nil (by simp) (by decide) fun H1 e1 h1 => ⟨rfl, ?_⟩
    refine ⟨_, rfl, p, rfl, ⟨_, SqL.of (e1 _ _ hp)⟩, for_list (K := Z.K) (a := p) (xs := xs) (fun i σ H' => ∃ m o, σ = [some (.ref p), some m, o] ∧ Same H H' ∧ MnAt C CB CM H' m (bs.take i)) ⟨_, _, rfl, e1, by rw [List.take_zero]; exact h1⟩ ?_ ?_ ?_⟩
    · rintro i σ H' hi ⟨m, o, rfl, e, _⟩
      exact SqL.of (e _ _ hp)
    · rintro i y σ H2 hy ⟨m, o, rfl, e, hm⟩
      obtain ⟨b, hbb, hyb⟩ := hb.get hy
      have hyb := hyb.mono e
      have hi := (List.getElem?_eq_some_iff.mp hbb).1
      refine ⟨_, rfl, _, rfl, fun x2 d2 hx2 hd2 hn2 => ?_⟩
      refine mk_menu hx2 hd2 hn2 (ys := [y]) (bs := [b]) (al_mk hyb Al.nil) (by simp) (by show 1 ≤ 64; decide) fun H3 e3 h3 => ⟨rfl, ?_⟩
      have hm3 := hm.mono e3
      have hj := joinB_take nd hbb
      refine ⟨hm3.ins, ⟨_, mn_ty M h3, .inl rfl⟩, m, .ref x2, bs.take i, rfl, hm3, .inl ⟨[b], h3, .inl ⟨by rw [hj, List.length_take]; omega, fun u H4 e4 h4 => ?_⟩⟩⟩
      rw [hj] at h4
      exact ⟨u, _, rfl, e.trans (e3.trans e4), h4⟩
    · rintro σ H2 ⟨m, o, rfl, e, hm⟩
      rw [hb.1, List.take_length] at hm
      exact ⟨_, rfl, k m H2 e hm⟩
end
end Ps

/-! A book where tables grow. -/
namespace Ps
open PySem PySem.Spec PyProof.Rows PySem.W L2 LamX

theorem BkAt.gr {T : List (Addr × Str)} {C CB : Addr} {H H' : Hp} {v : V} {b : Bk} (g : Gr T none H H') (h : BkAt C CB H v b) : BkAt C CB H' v b := by
  obtain ⟨a, dx, d, rfl, ha, ⟨vo, vf, va, hd, h1, h2, h3⟩, ho⟩ := h
  have sh : ∀ {v : V} {q : Int × Int}, Sh C H v q → Sh C H' v q := fun h => let ⟨a, dx, h, k⟩ := h; ⟨a, dx, h, g.at k⟩
  refine ⟨a, dx, d, rfl, g.at ha, ⟨vo, vf, va, g.at hd, sh h1, sh h2, ?_⟩, ho⟩
  cases hb : b.after with
  | ever => rw [hb] at h3; exact h3
  | doubt q => rw [hb] at h3; obtain ⟨a, w, e1, e2, e3⟩ := h3; exact ⟨a, w, e1, g.at e2, sh e3⟩
  | look i => rw [hb] at h3; obtain ⟨a, e1, e2⟩ := h3; exact ⟨a, e1, g.at e2⟩
end Ps

/-! k60: refused, direct. -/
namespace Ps
open PySem PySem.Spec PyProof.Rows PySem.W L2 LamX

def RefE60 (K : Frag) (C CB CX : Addr) (v : V) (Q : VK) : XK := fun cls d H' => cls = .ref CX ∧ ∃ dd, d = some dd ∧ H' dd = some (.xd [("value", v)]) ∧ (scal v v = true ∨ ∃ b, BkAt C CB H' v b) ∧ (∃ t b, TyX K H' v t ∧ kitOne K t (.type "bool") = some b) ∧ ∀ H2, Same H' H2 → Q (.bl true) H2
def spRefu60 (K : Frag) (C CB CX : Addr) : (XK → V → Hp → VK → Prop) → Sp := fun tl vs H Q _ => ∃ f v, vs = [.ref f, v] ∧ IsLam H f ∧ ∀ (E : XK) (Qn : VK), (∀ cls d H', RefE60 K C CB CX v Q cls d H' → E cls d H') → tl E v H Qn
section
variable {Z : Cz} {f C CB CX P fX : Addr} {fd : FuncData} {j : Nat}
theorem ok_refu60 (F : Fun Z.K "_law_refused" "_law_refused" s_lw_refused f fd) (KB : BkC Z CB) (J : BkI Z CB) (mb : Z.mg "bool" = none) (ch : CalSH Z 1 CB "__eq__" ["self", "other"] (spBkSelf C CB)) (TX : ExT Z.K Z.mg "BadMenu" "value" "BadMenu.__init__" CX P fX) (eX : exmOne Z.K (.ref CX) (.ref CX) = some true) :
    GivesL Z (j + 1) (j + 3) f fd ["_law_make", "_law_value"] (spRefu60 Z.K C CB CX) := by
  refine Fun.okL F sc_lw_refused (fun tl vs H Q E h => ?_) (fun cdv A outer s H vs Q g tl hr hv L h => ?_)
  · obtain ⟨_, v, rfl, _⟩ := h
    rfl
  · obtain ⟨g', v, rfl, hl, h⟩ := h
    cases hv
    have nd := sc_lw_refused.nd
    have ti : ∀ (x : Cx) (hx : x.mg = Z.mg) (t : Gl x "isinstance") (tb : Gl x "bool"), True := fun _ _ _ _ => trivial
    refine ⟨_, pss_cons (ps_tryN (Wout := fun _ _ _ _ => False) rfl rfl nd takesN0
        (fun W pn xe tk _ => pss_one (ps_expr (pe_lamS (i := 0) (E := fun σ => WE W σ) L rfl hr (fun σ => L2N.passAt tk σ) rfl (Or.inl rfl) (pv 1))))
        (HdsN.cons (i := 2) rfl rfl ⟨rfl, by decide, Or.inl TX.gC⟩ (fun a oe cls d pn hz hf => pss_one (ps_ret (pe_and (pe_cmpR (op_both op_eq (op_cmpH (op := .Eq) ch ((roomS hr).mono (by omega)) (hotS hz hf))) (pe_xf TX.xf TX.noN hz.zc hf (pv 2)) (pv 1) (nomark _))
          (pe_one (pe_cmpR op_eq (pe_callB (show CallR _ (.builtin "isinstance") (rIsi Z.K) from call_isi) (by rfl) J.isi (by decide +kernel) (pa_cons (pe_xf TX.xf TX.noN hz.zc hf (pv 2)) (pa_cons (pe_ty "bool" (by rfl) mb (by decide +kernel)) pa_nil))) (pe_callB (show CallR _ (.builtin "isinstance") (rIsi Z.K) from call_isi) (by rfl) J.isi (by decide +kernel) (pa_cons (pv 1) (pa_cons (pe_ty "bool" (by rfl) mb (by decide +kernel)) pa_nil))) (nomark _)))))) .nil))
      (pss_one (ps_ret pe_bl)), ?_⟩
    refine ⟨rfl, hl, _, rfl, hl, h _ _ fun cls d H' ⟨hc, dd, hd, hx, hfl, hb, q⟩ => ?_⟩
    subst hc hd
    refine ⟨true, eX, fun _ a ha => ?_, fun z => by cases z⟩
    refine ⟨_, rfl, rfl, rfl, dd, _, _, rfl, hx, lookup_one, _, rfl, ?_⟩
    obtain ⟨t, b, ty, hk⟩ := hb
    have tail : ∀ H2, Same H' H2 → tOp rEq (tCB (rIsi Z.K) (tCons (tXf a (Value.ref CX) (some dd) CX ("value") (tVar 2)) (tCons (tC (V.ty "bool")) tNil))) (tCB (rIsi Z.K) (tCons (tVar 1) (tCons (tC (V.ty "bool")) tNil))) (List.set (L2.start ["_law_make", "_law_value", "e"] [V.ref g, v]) 2 (some (V.ref a))) H2 Q := fun H2 e2 => by
      refine ⟨_, rfl, rfl, rfl, dd, _, _, rfl, e2 _ _ hx, lookup_one, _, _, _, _, b, rfl, .ty "bool", tyX_same e2 ty, hk, ?_⟩
      refine ⟨_, rfl, _, _, _, _, b, rfl, .ty "bool", tyX_same e2 ty, hk, rfl, ?_⟩
      rw [decide_eq_true rfl]
      exact q H2 e2
    rcases hfl with hs | ⟨bk, hbk⟩
    · refine .inl ⟨hs, _, rfl, ?_⟩
      rw [decide_eq_true rfl]
      exact iteT (tail H' (.refl _))
    · have hi : InsC CB H' v := by
        obtain ⟨a1, dx1, d1, rfl, ha1, _⟩ := hbk
        exact ⟨a1, dx1, _, rfl, ha1⟩
      have hn : Nf Z.K CB H' v := by
        obtain ⟨a1, dx1, d1, rfl, ha1, _⟩ := hbk
        exact ⟨_, .base (.ins ha1 KB.cl J.ha J.hn J.htk J.hm), nf_own⟩
      exact .inr ⟨hi, hn, v, bk, rfl, hbk, fun H2 e2 => ⟨_, rfl, iteT (tail H2 e2)⟩⟩
/-- a menu's item, where it is there -/
def spMnGet0 (C CB CM : Addr) : Sp := fun vs H Q _ => ∃ m i bs b, vs = [m, .int ((i : Nat) : Int)] ∧ MnAt C CB CM H m bs ∧ bs[i]? = some b ∧ ∀ u H', Same H H' → BkAt C CB H' u b → Q u H'
def spDirect (T : List (Addr × Str)) (C CB : Addr) : Sp := fun vs H Q _ => ∃ v1 v2 v3 b1 b2 b3, vs = [v1, v2, v3] ∧ BkAt C CB H v1 b1 ∧ BkAt C CB H v2 b2 ∧ BkAt C CB H v3 b3 ∧ [b1, b2, b3].Nodup ∧ Tabs T H ∧ ∀ H', Gr T none H H' → Q (.bl true) H'
def spMenu0 (K : Frag) (C CB CM CX : Addr) : Sp := fun vs H Q _ => spMenu K C CB CM CX vs H Q E0
structure L60 (Z : Cz) (C CB CM CX : Addr) : Prop where
  len : Z.mg "len" = none
  new : CalCR Z CX0 12 CM "Menu" (spMenu0 Z.K C CB CM CX)
  newX : CMenu Z C CB CM CX
  lenO : CalS Z CX0 1 CM "__len__" ["self"] (spMnLen C CB CM)
  get : CalI Z CX0 3 CM ["self", "number"] (spMnGet0 C CB CM)
  getX : CalI Z (CXN Z) 3 CM ["self", "number"] (spMnGet Z.K C CB CM CX)
  eq : CalS Z CX0 11 CM "__eq__" ["self", "other"] (spMnEq Z.K C CB CM)
  inn : CalS Z CX0 11 CM "__contains__" ["self", "book"] (spMnIn Z.K C CB CM)
  menu : Cal Z CX0 15 "_law_menu" ["_law_books"] [] (spLMenu C CB CM)
  refu : CalL Z 14 16 "_law_refused" ["_law_make", "_law_value"] (spRefu60 Z.K C CB CX)
  beq : CBkEq Z C CB
  M : MnT Z CM
  ne : NeT Z.K CM
  kb : BkC Z CB
  j : BkI Z CB
  bkn : ∃ b, kitOne Z.K (.ref CB) (.type "bool") = some b
  nob : kitOne Z.K (.type "int") (.ref CB) = some false ∧ kitOne Z.K (.type "NoneType") (.ref CB) = some false ∧ kitOne Z.K (.type "dict") (.ref CB) = some false
section
variable {T0 : List (Addr × Str)} {CM : Addr}
theorem ok_direct (F : Fun Z.K "_law_direct" "_law_direct" s_lw_direct f fd) (W : L60 Z C CB CM CX) (MK : Mkr Z T0 fd.code "_law_direct.<locals>.<lambda>") : Z.ok CX0 17 f fd ["_law_one", "_law_two", "_law_three"] (spDirect T0 C CB) := by
  refine Fun.okCd F sc_lw_direct (fun vs H Q E h => ?_) (fun A outer s H vs Q E hr h => ?_)
  · obtain ⟨v1, v2, v3, b1, b2, b3, rfl, _⟩ := h
    rfl
  · obtain ⟨v1, v2, v3, b1, b2, b3, rfl, h1, h2, h3, nd, hT, k⟩ := h
    have c_lw_menu := W.menu
    refine ⟨_, PSs.nox ((pss_cons (ps_set (i := 3) sc_lw_direct.nd rfl (Or.inl rfl) (pe_calCR W.new (hr.mono (by decide)) (by rfl) pass0 (pa_cons (pv 0) (pa_cons (pv 1) (pa_cons (pv 2) pa_nil)))))
      (pss_cons (ps_if (PW.pt (pw_or (pt_cmpR op_ne (pe_callB (len_cal W.lenO (hr.mono (by decide)) pass0) (by rfl) W.len PySem.boot_len (pa_cons (pv 3) pa_nil)) pe_int (nomark _)) (pw_or (pt_cmpR (op_neL mon_dBk (eqB_bk W.beq) (hr.mono (by decide))) (pe_lst (pa_cons (pe_ixP W.get (hr.mono (by decide)) pass0 (pv 3) pe_int) (pa_cons (pe_ixP W.get (hr.mono (by decide)) pass0 (pv 3) pe_int) (pa_cons (pe_ixP W.get (hr.mono (by decide)) pass0 (pv 3) pe_int) pa_nil)))) (pe_lst (pa_cons (pv 0) (pa_cons (pv 1) (pa_cons (pv 2) pa_nil)))) (nomark _)) (pw_or1 (pt_cmpR (op_ne_ W.eq W.ne (hr.mono (by decide)) pass0) (pv 3) (pe_cal c_lw_menu (hr.mono (by decide)) (by rfl) pass0 (pa_cons (pe_lst (pa_cons (pv 0) (pa_cons (pv 1) (pa_cons (pv 2) pa_nil)))) pa_nil)) (nomark _))))))
      (pss_one (ps_ret pe_bl))
      pss_nil)
      (pss_cons (ps_if (PW.pt (pw_or (pt_not (pt_val (pe_calL W.refu (hr.mono (by decide)) (by rfl) (pa_cons (pe_lamP (p := "_law_x") MK (lamP_by (sc := defScope s_lw_direct) (by decide +kernel))) (pa_cons pe_int pa_nil)) (p := "_law_x") (lamP_by (sc := defScope s_lw_direct) (by decide +kernel)) (show ("_law_x" : Str) ∉ (["_law_one", "_law_two", "_law_three", "_law_menu_here"] : List Str) by decide +kernel) (fun _ _ _ _ _ _ => rfl) (fun _ _ _ _ E2 _ _ hr2 => (pe_calCR W.newX (hr2.mono (by decide)) (by rfl) (passN takes_lam) (pa_cons (pv 0) (pa_cons (pv 1) (pa_cons (pv 4) (pa_cons (pv 0) (pa_cons pe_non pa_nil)))))))))) (pw_or1 (pt_not (pt_val (pe_calL W.refu (hr.mono (by decide)) (by rfl) (pa_cons (pe_lamP (p := "_law_y") MK (lamP_by (sc := defScope s_lw_direct) (by decide +kernel))) (pa_cons pe_non pa_nil)) (p := "_law_y") (lamP_by (sc := defScope s_lw_direct) (by decide +kernel)) (show ("_law_y" : Str) ∉ (["_law_one", "_law_two", "_law_three", "_law_menu_here"] : List Str) by decide +kernel) (fun _ _ _ _ _ _ => rfl) (fun _ _ _ _ E2 _ _ hr2 => (pe_calCR W.newX (hr2.mono (by decide)) (by rfl) (passN takes_lam) (pa_cons (pv 4) pa_nil)))))))))
      (pss_one (ps_ret pe_bl))
      pss_nil)
      (pss_one (ps_ret (pe_and (pe_calL W.refu (hr.mono (by decide)) (by rfl) (pa_cons (pe_lamP (p := "_law_x") MK (lamP_by (sc := defScope s_lw_direct) (by decide +kernel))) (pa_cons (pv 1) pa_nil)) (p := "_law_x") (lamP_by (sc := defScope s_lw_direct) (by decide +kernel)) (show ("_law_x" : Str) ∉ (["_law_one", "_law_two", "_law_three", "_law_menu_here"] : List Str) by decide +kernel) (fun _ _ _ _ _ _ => rfl) (fun _ _ _ _ E2 _ _ hr2 => (pe_calCR W.newX (hr2.mono (by decide)) (by rfl) (passN takes_lam) (pa_cons (pv 0) (pa_cons (pv 1) (pa_cons (pv 2) (pa_cons (pv 4) (pa_cons pe_int pa_nil)))))))) (pe_one (pe_calL W.refu (hr.mono (by decide)) (by rfl) (pa_cons (pe_lamP (p := "_law_y") MK (lamP_by (sc := defScope s_lw_direct) (by decide +kernel))) (pa_cons (pv 0) pa_nil)) (p := "_law_y") (lamP_by (sc := defScope s_lw_direct) (by decide +kernel)) (show ("_law_y" : Str) ∉ (["_law_one", "_law_two", "_law_three", "_law_menu_here"] : List Str) by decide +kernel) (fun _ _ _ _ _ _ => rfl) (fun _ _ _ _ E2 _ _ hr2 => (pe_calCR W.newX (hr2.mono (by decide)) (by rfl) (passN takes_lam) (pa_cons (pv 4) (pa_cons (pv 0) (pa_cons (pv 4) pa_nil)))))))))))))), ?_⟩
    have al : Bks C CB H [v1, v2, v3] [b1, b2, b3] := al_mk h1 (al_mk h2 (al_mk h3 Al.nil))
    have nf : ∀ {H' : Hp} {v : V} {bs : List Bk}, MnAt C CB CM H' v bs → Nf Z.K CM H' v := fun h => ⟨_, mn_ty W.M h, nf_own⟩
    refine ⟨_, rfl, _, rfl, _, rfl, fun x dx hx hdx hne => ?_⟩
    refine mk_menu hx hdx hne al nd (by show 3 ≤ 64; decide) fun H1 e1 hm => ⟨rfl, ?_⟩
    refine ⟨_, rfl, _, rfl, hm.ins, _, _, rfl, hm, _, rfl, (by show 3 ≤ 100000; decide), rfl, _, rfl, iteNS rfl ?_⟩
    refine ⟨_, rfl, hm.ins, _, 0, _, b1, rfl, hm, rfl, fun u1 H2 e2 hu1 => ?_⟩
    have hm2 := hm.mono e2
    refine ⟨_, rfl, hm2.ins, _, 1, _, b2, rfl, hm2, rfl, fun u2 H3 e3 hu2 => ?_⟩
    have hm3 := hm2.mono e3
    refine ⟨_, rfl, hm3.ins, _, 2, _, b3, rfl, hm3, rfl, fun u3 H4 e4 hu3 => ?_⟩
    refine ⟨(by show 3 ≤ sizeLine; decide), fun l1 hl1 => ⟨_, rfl, _, rfl, _, rfl, (by show 3 ≤ sizeLine; decide), fun l2 hl2 => ?_⟩⟩
    have f1 := Same.upd (o := .lst [u1, u2, u3]) hl1
    have f2 := Same.upd (o := .lst [v1, v2, v3]) hl2
    have e14 := e2.trans (e3.trans e4)
    have e04 := e1.trans e14
    have alu : Bks C CB H4 [u1, u2, u3] [b1, b2, b3] := al_mk (hu1.mono (e3.trans e4)) (al_mk (hu2.mono e4) (al_mk hu3 Al.nil))
    have hlst : ∀ {G : Hp}, Same H4 G → LstB (dBk C CB) G [u1, u2, u3] [v1, v2, v3] true := fun {G} eg => by
      have := LstB.of (D := dBk C CB) (H := G) (xs := [u1, u2, u3]) (ys := [v1, v2, v3]) (as := [b1, b2, b3]) (bs := [b1, b2, b3]) rfl rfl fun i x y p q h1 h2 h3 h4 => dBk_of ((alu.2 i x p h1 h3).mono eg) ((al.2 i y q h2 h4).mono (e04.trans eg))
      rw [decide_eq_true rfl] at this
      exact this
    refine ⟨l1, l2, _, _, true, rfl, rfl, SqL.of (f2 _ _ upd_same), SqL.of upd_same, hlst (f1.trans f2), fun H5 e5 => ⟨_, rfl, iteF ?_⟩⟩
    have e15 := e14.trans ((f1.trans f2).trans e5)
    have e05 := e1.trans e15
    refine ⟨_, rfl, _, rfl, _, rfl, _, rfl, (by show 3 ≤ sizeLine; decide), fun l3 hl3 => ?_⟩
    have f3 := Same.upd (o := .lst [v1, v2, v3]) hl3
    refine ⟨l3, _, _, rfl, upd_same, al.mono (e05.trans f3), nd, (by show 3 ≤ 64; decide), fun w H6 e6 hw => ?_⟩
    have e16 := e15.trans (f3.trans e6)
    have hm6 := hm.mono e16
    refine ⟨hm6.ins, nf hw, _, _, _, rfl, hm6, .inl ⟨_, hw, fun H7 e7 => ⟨true, by rw [decide_eq_true rfl], _, rfl, iteF ?_⟩⟩⟩
    have e07 := e1.trans (e16.trans e7)
    have hT7 := hT.ext e07
    have al7 := al.mono e07
    clear hm hm2 hm3 hm6 hw alu hlst e16 e15 e05 e14 e04 e2 e3 e4 e5 e6 e7 f1 f2 f3 hu1 hu2 hu3
    obtain ⟨bb, hbb⟩ := W.bkn
    have tyB : ∀ {G : Hp} {v : V} {b : Bk}, BkAt C CB G v b → ∃ t b, TyX Z.K G v t ∧ kitOne Z.K t (.type "bool") = some b := fun {G v b} h => by
      obtain ⟨a1, dx1, d1, rfl, ha1, _⟩ := h
      exact ⟨_, bb, .base (.ins ha1 W.kb.cl W.j.ha W.j.hn W.j.htk W.j.hm), hbb⟩
    have g0 : Gr T0 none H H7 := .of e07
    -- 7 is no book
    refine ⟨hT7, fun f1 G1 g1 t1 la1 => ⟨f1, rfl, f1, _, rfl, la1.is, fun E2 Qn hE => ⟨la1, ?_⟩⟩⟩
    have al1 : Bks C CB G1 [v1, v2, v3] [b1, b2, b3] := al7.imp fun _ _ q => q.gr g1
    have a1 := al1.2 0 _ _ rfl rfl
    have a2 := al1.2 1 _ _ rfl rfl
    refine ⟨_, rfl, _, rfl, _, rfl, _, rfl, fun x2 dx2 hx2 hdx2 hn2 => ?_⟩
    refine mk_menuX (its := [some b1, some b2, none, some b1, none]) (i := 2) (bs := [b1, b2]) (v := .int 7) hx2 hdx2 hn2 (al_mk (.bk a1) (al_mk (.bk a2) (al_mk (.odd ⟨_, .base (.int _), W.nob.1⟩) (al_mk (.bk a1) (al_mk (.odd ⟨_, .base .non, W.nob.2.1⟩) Al.nil))))) (by show 5 ≤ 500; decide) rfl (nd.sublist (by simp)) (by show 2 ≤ 64; decide) rfl (.inl rfl) fun d K1 k1 hd hx' => hE _ _ _ ⟨rfl, d, rfl, hx', .inl rfl, ⟨_, false, .base (.int _), kit_ty (by decide +kernel)⟩, fun M1 m1 => ?_⟩
    clear hE
    refine ⟨_, rfl, iteF ?_⟩
    have tt1 := t1.ext (k1.trans m1)
    have gg1 := g0.trans (g1.trans (.of (k1.trans m1)))
    -- None is no book
    refine ⟨tt1, fun f2 G2 g2 t2 la2 => ⟨f2, rfl, f2, _, rfl, la2.is, fun E2 Qn hE => ⟨la2, ?_⟩⟩⟩
    refine ⟨_, rfl, fun x2 dx2 hx2 hdx2 hn2 => ?_⟩
    refine mk_menuX (its := [none]) (i := 0) (bs := []) (v := .non) hx2 hdx2 hn2 (al_mk (.odd ⟨_, .base .non, W.nob.2.1⟩) Al.nil) (by show 1 ≤ 500; decide) rfl (by simp) (by decide) rfl (.inl rfl) fun d K2 k2 hd hx' => hE _ _ _ ⟨rfl, d, rfl, hx', .inl rfl, ⟨_, false, .base .non, kit_ty (by decide +kernel)⟩, fun M2 m2 => ?_⟩
    clear hE
    refine ⟨_, rfl, iteF ?_⟩
    have tt2 := t2.ext (k2.trans m2)
    have gg2 := gg1.trans (g2.trans (.of (k2.trans m2)))
    -- the second one again
    refine ⟨tt2, fun f3 G3 g3 t3 la3 => ⟨_, rfl, f3, rfl, f3, _, rfl, la3.is, fun E2 Qn hE => ⟨la3, ?_⟩⟩⟩
    have al3 : Bks C CB G3 [v1, v2, v3] [b1, b2, b3] := al.imp fun _ _ q => (q.gr gg2).gr g3
    have c1 := al3.2 0 _ _ rfl rfl
    have c2 := al3.2 1 _ _ rfl rfl
    have c3 := al3.2 2 _ _ rfl rfl
    refine ⟨_, rfl, _, rfl, _, rfl, _, rfl, fun x2 dx2 hx2 hdx2 hn2 => ?_⟩
    refine mk_menuX (its := [some b1, some b2, some b3, some b2, none]) (i := 3) (bs := [b1, b2, b3]) (v := v2) hx2 hdx2 hn2 (al_mk (.bk c1) (al_mk (.bk c2) (al_mk (.bk c3) (al_mk (.bk c2) (al_mk (.odd ⟨_, .base (.int _), W.nob.1⟩) Al.nil))))) (by show 5 ≤ 500; decide) rfl nd (by show 3 ≤ 64; decide) rfl (.inr ⟨b2, rfl, .inl (by simp)⟩) fun d K3 k3 hd hx' => hE _ _ _ ⟨rfl, d, rfl, hx', .inr ⟨b2, c2.mono k3⟩, tyB (c2.mono k3), fun M3 m3 => ?_⟩
    clear hE
    refine ⟨true, rfl, iteT ?_⟩
    have tt3 := t3.ext (k3.trans m3)
    have gg3 := gg2.trans (g3.trans (.of (k3.trans m3)))
    -- the first one twice
    refine ⟨tt3, fun f4 G4 g4 t4 la4 => ⟨_, rfl, f4, rfl, f4, _, rfl, la4.is, fun E2 Qn hE => ⟨la4, ?_⟩⟩⟩
    have al4 : Bks C CB G4 [v1, v2, v3] [b1, b2, b3] := al.imp fun _ _ q => (q.gr gg3).gr g4
    have d1 := al4.2 0 _ _ rfl rfl
    refine ⟨_, rfl, _, rfl, _, rfl, fun x2 dx2 hx2 hdx2 hn2 => ?_⟩
    exact mk_menuX (its := [some b1, some b1, some b1]) (i := 1) (bs := [b1]) (v := v1) hx2 hdx2 hn2 (al_mk (.bk d1) (al_mk (.bk d1) (al_mk (.bk d1) Al.nil))) (by show 3 ≤ 500; decide) rfl (by simp) (by show 1 ≤ 64; decide) rfl (.inr ⟨b1, rfl, .inl (by simp)⟩) fun d K4 k4 hd hx' => hE _ _ _ ⟨rfl, d, rfl, hx', .inr ⟨b1, d1.mono k4⟩, tyB (d1.mono k4), fun M4 m4 => k M4 (gg3.trans (g4.trans (.of (k4.trans m4))))⟩
end
end
end Ps

/-! Menus in laws: small things. -/
namespace Ps
open PySem PySem.Spec PyProof.Rows PySem.W L2 LamX

theorem pass00 {X : Cx} : Passes (L2.CX X.prog X.w) X (fun _ _ _ => False) := fun _ _ _ _ _ _ _ z => by
  obtain ⟨_, _, _, _, _, _, _, _, _, _, _, _, h⟩ := z
  exact h.elim
theorem al_rev {α : Type} {R : V → α → Prop} : ∀ {vs : List V} {qs : List α}, Al R vs qs → Al R vs.reverse qs.reverse
  | [], [], _ => Al.nil
  | [], _ :: _, h => by have := h.1; simp at this
  | _ :: _, [], h => by have := h.1; simp at this
  | v :: vs, q :: qs, h => by
    rw [List.reverse_cons, List.reverse_cons]
    exact al_app (al_rev (al_cons h).2) (al_mk (al_cons h).1 Al.nil)
theorem al_mapR {α β : Type} {R : V → β → Prop} {g : α → β} : ∀ {vs : List V} {qs : List α}, Al (fun v q => R v (g q)) vs qs → Al R vs (qs.map g)
  | [], [], _ => Al.nil
  | [], _ :: _, h => by have := h.1; simp at this
  | _ :: _, [], h => by have := h.1; simp at this
  | _ :: _, _ :: _, h => al_mk (al_cons h).1 (al_mapR (al_cons h).2)
theorem MnAt.gr {T : List (Addr × Str)} {C CB CM : Addr} {H H' : Hp} {v : V} {bs : List Bk} (g : Gr T none H H') (h : MnAt C CB CM H v bs) : MnAt C CB CM H' v bs := by
  obtain ⟨a, dx, l, xs, h1, h2, h3, h4, h5⟩ := h
  exact ⟨a, dx, l, xs, h1, g.at h2, g.at h3, h4.imp fun _ _ q => q.gr g, h5⟩
theorem nd_len {α : Type} [DecidableEq α] : ∀ {l m : List α}, l.Nodup → (∀ x ∈ l, x ∈ m) → l.length ≤ m.length
  | [], _, _, _ => Nat.zero_le _
  | x :: l, m, nd, h => by
    obtain ⟨h1, h2⟩ := List.nodup_cons.mp nd
    have hx := h x List.mem_cons_self
    have := nd_len (l := l) (m := m.erase x) h2 fun y hy => (List.mem_erase_of_ne (fun z => h1 (by rw [← z]; exact hy))).mpr (h y (List.mem_cons_of_mem _ hy))
    rw [List.length_erase_of_mem hx] at this
    have hp : 0 < m.length := List.length_pos_of_mem hx
    rw [List.length_cons]
    omega
end Ps

/-! {x for x in xs} of a list of ints: how many it has, against the list. -/
namespace Ps
open PySem PySem.Spec PyProof.Rows PySem.W L2

theorem nodup_snoc {l : List Int} {x : Int} : (l ++ [x]).Nodup ↔ l.Nodup ∧ x ∉ l := by
  rw [List.nodup_append]
  constructor
  · rintro ⟨h1, _, h3⟩
    exact ⟨h1, fun hm => h3 x hm x (by simp) rfl⟩
  · rintro ⟨h1, h2⟩
    refine ⟨h1, by simp, fun a ha b hb e => ?_⟩
    rw [List.mem_singleton.mp hb] at e
    exact h2 (e ▸ ha)
theorem vals_at : ∀ {xs : List V} {us : List Value} {i : Nat} {x : V} {u : Value}, Vals xs us → us[i]? = some u → xs[i]? = some x → RelV x u
  | _, _, 0, _, _, .cons r _, h1, h2 => by
    cases h1
    cases h2
    exact r
  | _, _, i + 1, _, _, .cons _ r, h1, h2 => vals_at (i := i) r (by simpa using h1) (by simpa using h2)
/-- the names of the block of a comprehension over one name -/
structure IdB (env : Env) (scope : Scope) (x : Str) : Prop where
  cell : ∀ y ∈ scope.names, y.2 ≠ .cell
  kind : scope.kind = .function
  uniq : ∀ y ∈ scope.names, y.2 = .local → scope.names.lookup y.1 = some .local
  free : ∀ y ∈ scope.names, y.2 ≠ .free
  loc : scope.names.lookup x = some .local
  dbg : (x == ("__debug__" : Str)) = false
def tSetI (w : World) (K : Frag) (te : TE) : TE := fun σ H Q => te σ H fun v H1 => ∃ (a : Addr) (ns : List Int), v = .ref a ∧ SqL K H1 a (ns.map V.int) ∧ ns.length ≤ 1000 ∧ ∀ D S n, H1 D = none → n ≤ ns.length → (n = ns.length ↔ ns.Nodup) → Q (.ref D) (upd H1 D (SetO w D S n))
section
variable {X : Cx}
theorem pe_setI {iter : Expr} {x : Str} {p1 p2 pos : Pos} {scope : Scope} {te : TE} (hc : X.calm = true) (B : IdB X.env scope x) (he : PE X iter te) (hs : ∀ v, foldedSetIterable iter X.env v = pure v := by intro _; rfl) :
    PE X (.SetComp (.Name x p1) [⟨.Name x p2, iter, [], 0⟩] scope pos) (tSetI X.w X.K te) := by
  refine ⟨fun pins s σ H Q I h => ?_⟩
  refine SetComp_goes (closure_ok fun y hy e => absurd e (B.free y hy)) B.cell B.kind B.uniq (thn (he.run pins s σ H _ I h) fun u s1 ⟨v, H1, I1, r1, q1⟩ => ?_) hs
  obtain ⟨a, ns, ev, hl, hn, q⟩ := q1
  subst ev
  cases r1
  obtain ⟨its, rv, pl, hz⟩ := I1.list hl
  have hI : IntsAre its ns := intsAre_of rv
  have hlen : its.length = ns.length := hI.length
  have isl := pl.isList
  obtain ⟨ol, hol, _⟩ := id isl
  have hlt : a < s1.heap.objs.size := Heap.lt_size hol
  refine wpAny_pyIter_list isl ?_
  have kp1 : ∀ b o, s1.heap.get? b = some o → (s1.heap.push { cls := .type "list_iterator", data := .fields #[.ref a, .int 0 0] }).get? b = some o := fun b o e => Heap.get?_push_of_some _ e
  have sz1 : (s1.heap.push { cls := .type "list_iterator", data := .fields #[.ref a, .int 0 0] }).objs.size = s1.heap.objs.size + 1 := size_push' _ _
  refine ⟨s1.heap.objs.size, _, _, _, _, _, rfl, Goes.list (I1.ok.hd hc) s1.heap.objs.size a (Nat.ne_of_lt hlt) its.toArray, ⟨⟨_, Heap.get?_push_size _ rfl, rfl, rfl⟩, isl.at fun o e => kp1 _ o e⟩, fun D C s₃ hB hD => ?_⟩
  obtain ⟨⟨h₃, tk₃, rfl⟩, old, nD, nC, hDC, hnm⟩ := hB
  have nC' : s1.heap.objs.size + 1 ≤ C := by rw [← sz1]; exact nC
  have nD' : s1.heap.objs.size + 1 ≤ D := by rw [← sz1]; exact nD
  have lt_of : ∀ {b : Addr} {o : Obj}, s1.heap.get? b = some o → b ≠ s1.heap.objs.size ∧ b ≠ C ∧ b ≠ D := fun {b o} e => by
    have hb : b < s1.heap.objs.size := Heap.lt_size e
    exact ⟨Nat.ne_of_lt hb, Nat.ne_of_lt (Nat.lt_of_lt_of_le hb (Nat.le_of_succ_le nC')), Nat.ne_of_lt (Nat.lt_of_lt_of_le hb (Nat.le_of_succ_le nD'))⟩
  have kinds : (compEnvC scope (cloFrom X.env.cells scope.names []) C X.env).kindOf x = some .local := lookup_relabel_local B.loc
  have hp : ((compEnvC scope (cloFrom X.env.cells scope.names []) C X.env).scope.kind == .class || ((compEnvC scope (cloFrom X.env.cells scope.names []) C X.env).scope.kind == .module && (compEnvC scope (cloFrom X.env.cells scope.names []) C X.env).locals != (compEnvC scope (cloFrom X.env.cells scope.names []) C X.env).globals)) = false := by
    show (scope.kind == .class || (scope.kind == .module && _)) = false
    rw [B.kind]
    rfl
  have hR0 : SetR X.w h₃ D (fun _ => false) 0 := by
    obtain ⟨o, es, ep, t, ho, r⟩ := setR_fresh (h := s1.heap) X.w
    rw [Heap.get?_push_size _ rfl] at ho
    exact ⟨o, es, ep, t, hD.trans ho, r⟩
  refine ⟨fun i s' => ∃ h' tk m S n, s' = { s1 with heap := h', toks := tk } ∧ h'.Ns C m ∧ SetR X.w h' D S n ∧ (∀ k, S k = decide (k ∈ ns.take i)) ∧ n ≤ i ∧ (n = i ↔ (ns.take i).Nodup) ∧ ∀ b o, s1.heap.get? b = some o → h'.get? b = some o, ⟨h₃, tk₃, _, _, _, rfl, hnm, hR0, fun k => by simp, Nat.le_refl _, by simp, fun b o e => old b o (kp1 b o e)⟩, ?_, ?_, ?_⟩
  · rintro i s' h' tk ⟨h₄, tk₄, m, S, n, rfl, n₄, R₄, hS, hn1, hn2, k₄⟩ hk' _
    refine ⟨h', tk, m, S, n, rfl, n₄.at' fun o e => hk' _ o ?_ e, R₄.at fun o e => hk' _ o ?_ e, hS, hn1, hn2, fun b o e => hk' b o ?_ (k₄ b o e)⟩
    · simp only [List.mem_singleton]
      exact Nat.ne_of_gt nC'
    · simp only [List.mem_singleton]
      exact Nat.ne_of_gt nD'
    · simp only [List.mem_singleton]
      exact (lt_of e).1
  · rintro i u s' hi hu st ⟨h₄, tk₄, m, S, n, rfl, n₄, R₄, hS, hn1, hn2, k₄⟩
    have hi' : i < ns.length := by rw [List.size_toArray, hlen] at hi; exact hi
    have hu' : its[i]? = some u := by simpa using hu
    obtain ⟨t, rfl⟩ : ∃ t, u = .int ns[i] t := vals_at (x := .int ns[i]) rv hu' (by rw [List.getElem?_map, List.getElem?_eq_getElem hi']; rfl)
    refine wpAny_assign_Name (wpAny_storeName_local kinds n₄ (fun h₆ n₆ s₆ => wpAny_tests_nil ?_) hp)
    show wpAny _ _ _ _ _ _
    rw [eval_Name _ _ _ B.dbg]
    refine wpAny_bind (wpAny_standAt (wpAny_loadName_local B.kind kinds n₆ (v := .int ns[i] t) (by simp) ?_))
    have R₆ : SetR X.w h₆ D S n := R₄.at fun o e => s₆.extBut _ _ hDC e
    have hmem : ns[i] ∈ ns.take i ↔ ¬ (S ns[i] = false) := by rw [hS]; simp
    have ek : ns.take (i + 1) = ns.take i ++ [ns[i]] := by rw [List.take_succ, List.getElem?_eq_getElem hi']; rfl
    refine setR_add R₆ (Nat.lt_of_le_of_lt (show n + 1 ≤ 1001 by omega) (by decide)) fun h₇ sb new => ?_
    have up : ∀ b o, b ≠ C → b ≠ D → h₄.get? b = some o → h₇.get? b = some o := fun b o h1 h2 e => (sb.2 b h2).trans (s₆.extBut _ _ h1 e)
    refine ⟨⟨h₇, _, _, _, _, rfl, n₆.at' fun o e => (sb.2 C (Ne.symm hDC)).trans e, new, fun k => ?_, ?_, ?_, fun b o e => up b o (lt_of e).2.1 (lt_of e).2.2 (k₄ b o e)⟩, ?_⟩
    · rw [ek, hS, Bool.eq_iff_iff]
      simp only [Bool.or_eq_true, decide_eq_true_eq, List.mem_append, List.mem_singleton]
    · split <;> omega
    · rw [ek, nodup_snoc]
      cases hb : S ns[i] with
      | true =>
        rw [if_pos rfl]
        have h1 : ns[i] ∈ ns.take i := by rw [hmem, hb]; simp
        constructor
        · intro z; omega
        · rintro ⟨_, z⟩; exact absurd h1 z
      | false =>
        rw [if_neg (by simp)]
        have h1 : ns[i] ∉ ns.take i := by rw [hmem, hb]; simp
        constructor
        · intro z; exact ⟨hn2.mp (by omega), h1⟩
        · rintro ⟨z, _⟩; rw [hn2.mpr z]
    · obtain ⟨z1, z2⟩ := st
      obtain ⟨o1, e1, e2⟩ := z1
      exact ⟨⟨o1, up _ _ (Nat.ne_of_lt nC') (Nat.ne_of_lt nD') e1, e2⟩, z2.at fun o e => up _ o (Nat.ne_of_lt (Nat.lt_of_lt_of_le hlt (Nat.le_of_succ_le nC'))) (Nat.ne_of_lt (Nat.lt_of_lt_of_le hlt (Nat.le_of_succ_le nD'))) e⟩
  · rintro s' ⟨h₄, tk₄, m, S, n, rfl, n₄, R₄, hS, hn1, hn2, k₄⟩
    rw [List.size_toArray, hlen] at hn1 hn2
    rw [List.take_length] at hn2
    refine ⟨m, n₄, fun h' hs' => ?_⟩
    have hDn : H1 D = none := I1.hok.fresh (Nat.le_of_succ_le nD')
    exact ⟨.ref D, upd H1 D (SetO X.w D S n), I1.laid (t' := tk₄) (fun b o e => hs'.extBut b o (lt_of e).2.1 (k₄ b o e)) (Nat.le_of_succ_le nD') (setO_new (R₄.at fun o e => hs'.extBut _ _ hDC e)), rfl, q D S n hDn hn1 hn2⟩
/-- len of a set of ints -/
theorem call_lenSet : CallR X (.builtin "len") (fun xs H Q => ∃ a S n, xs = [.ref a] ∧ H a = some (SetO X.w a S n) ∧ Q (.int (n : Nat)) H) := by
  intro pins s σ H xs us Q I r h
  obtain ⟨a, S, n, rfl, ha, q⟩ := h
  obtain ⟨u, rfl, rx⟩ := vals1 r
  cases rx
  obtain ⟨o, es, ep, t, ho, hex, hd, _, _, _, hsz, hf, hn, _⟩ := setO_get I ha
  refine call_len_set ho hex hd hf ?_ ⟨.int n, H, I.tok _, ⟨_, by rw [hn]⟩, q⟩
  have : scanBound ≤ 2 ^ 62 := by decide
  omega
end
end Ps

/-! Rows: words, nodes, the sort of both. -/
namespace Ps
open PySem PySem.Spec PyProof.Rows PySem.W L2 LamX

abbrev letters : Str := "abcdefghijklmnopqrstuvwxyz"
/-- built-in names -/
structure WdT (Z : Cz) : Prop where
  isi : Z.mg "isinstance" = none
  int : Z.mg "int" = none
  bool : Z.mg "bool" = none
  str : Z.mg "str" = none
  list : Z.mg "list" = none
  len : Z.mg "len" = none
  all : Z.mg "all" = none
  sorted : Z.mg "sorted" = none
  lets : ∃ t, Z.mg "LETTERS" = some (.str letters t)
  ml : ∃ t, Z.mg "MOST_LETTERS" = some (.int 8 t)
structure RwB (Z : Cz) : Prop extends WdT Z where
  mn : ∃ t, Z.mg "MOST_NODES" = some (.int 8 t)
def isW (z : Str) : Bool := decide (1 ≤ z.length ∧ z.length ≤ 8) && z.cps.toList.all fun c => decide (c ∈ letters.cps.toList)
/-- a word, or not -/
inductive WdB (K : Frag) (H : Hp) : V → Bool → Prop
  | str (z : Str) (h : z.length ≤ sizeLine) : WdB K H (.str z) (isW z)
  | odd {v : V} {t : Value} (ty : TyX K H v t) (k : kitOne K t (.type "str") = some false) : WdB K H v false
/-- no integer -/
def NnI (K : Frag) (H : Hp) (v : V) : Prop := ∃ t, TyX K H v t ∧ (t = .type "bool" ∨ kitOne K t (.type "int") = some false)
/-- a node, or not -/
inductive NdB (K : Frag) (m : Int) (H : Hp) : V → Bool → Prop
  | int (n : Int) : NdB K m H (.int n) (decide (0 ≤ n ∧ n < m))
  | odd {v : V} (h : NnI K H v) : NdB K m H v false
/-- nodes, or not -/
inductive NdsB (K : Frag) (m : Int) (H : Hp) : V → Bool → Prop
  | odd {v : V} {t : Value} (ty : TyX K H v t) (k : kitOne K t (.type "list") = some false) : NdsB K m H v false
  | bad {a : Addr} {xs : List V} {bs : List Bool} (h : H a = some (.lst xs)) (hl : xs.length ≤ 1000) (al : Al (NdB K m H) xs bs) (b : bs.all id = false) : NdsB K m H (.ref a) false
  | nds {a : Addr} {ns : List Int} (h : H a = some (.lst (ns.map V.int))) (hl : ns.length ≤ 1000) (hn : ∀ n ∈ ns, 0 ≤ n ∧ n < m) : NdsB K m H (.ref a) (decide ns.Nodup)
def spIsWord (K : Frag) : Sp := fun vs H Q _ => ∃ v b, vs = [v] ∧ WdB K H v b ∧ ∀ H', Same H H' → Q (.bl b) H'
def spAreNodes (K : Frag) : Sp := fun vs H Q _ => ∃ v m b, vs = [v, .int m] ∧ NdsB K m H v b ∧ ∀ H', Same H H' → Q (.bl b) H'
/-- the text of an item -/
def kTx : V → Str
  | .str z => z
  | .int i => toString i
  | _ => ""
def srt (ys : List V) : List V := ys.mergeSort (leTx kTx)
def spAsc (K : Frag) (T : List (Addr × Str)) : Sp := fun vs H Q _ => ∃ (a : Addr) (ys : List V), vs = [.ref a] ∧ Tabs T H ∧ Itr K H a ys ∧ (∀ y ∈ ys, KTx y (kTx y)) ∧ ∀ p H', Grow T H H' → H p = none → H' p = some (.lst (srt ys)) → Q (.ref p) H'
theorem isW_strOk {z : Str} (h : isW z = true) : PyData.strOk z = true := by
  unfold isW at h
  have h2 := List.all_eq_true.mp ((Bool.and_eq_true _ _).mp h).2
  have lo : ∀ c ∈ letters.cps.toList, c < 0x110000 := by decide +kernel
  unfold PyData.strOk
  rw [← Array.all_toList, List.all_eq_true]
  intro c hc
  exact decide_eq_true (lo c (of_decide_eq_true (h2 c hc)))
section
variable {P : Program} {w : World} {K : Frag} {mg : Str → Option Value} {base : Heap}
/-- as Fun.okN, the code object known -/
theorem Fun.okC {x qual : Str} {st : Stmt} {f : Addr} {fd : FuncData} {N ps : List Str} {k : Nat} {sp : Sp} {CX : CXT} (F : Fun K x qual st f fd) (S : FnScope N ps (defScope st)) (len : ∀ vs H Q E, sp vs H Q E → vs.length = ps.length)
    (hbody : ∀ (A : Around) (outer : List Env) (s : Shared) (H : Hp) (vs : List V) (Q : VK) (E : XK), Room k (A.deeper (envOfC qual (defScope st) s.heap.objs.size f fd.code)) → sp vs H Q E →
      ∃ t, PSs (cxOf CX P w K mg base N qual (defScope st) f fd.code A outer s H E) (defBody st) t ∧ t { nx := fun _ H' => Q .non H', rt := Q } (start N vs) H) : FnOk P w K mg base CX (k + 1) f fd ps sp := by
  obtain ⟨oc, od, kV, doc, pm, an, cdv, ct, osl, rfl, lk, hcd⟩ := F.ex
  exact fn_of lk hcd S len hbody
end
/-- lambda x: str(x), by a look at its parts -/
def strLB (params : Arguments) (body : Expr) (scope : Scope) : Bool := match params.args, body with
  | [a], .Call (.Name f _) [.Name x _] [] _ => decide (f = ("str" : Str)) && (decide (a.arg = x) && (decide (scope.names.lookup x = some .local) && (decide (scope.names.lookup ("str" : Str) = some .globalImplicit) && (!(x == ("__debug__" : Str)) &&
      (decide (scope.kind = .function) && (!scope.isCoroutine && (!scope.isGenerator && scope.names.all fun y => !decide (y.2 = .cell) && !decide (y.2 = .free))))))))
  | _, _ => false
theorem strL_by {params : Arguments} {body : Expr} {scope : Scope} {x : Str} {p1 p2 p3 : Pos} (eb : body = .Call (.Name "str" p1) [.Name x p2] [] p3) (h1 : scope.names.lookup x = some .local) (h2 : scope.names.lookup ("str" : Str) = some .globalImplicit) (h3 : (x == ("__debug__" : Str)) = false)
    (h4 : ∀ (q : Str) (cl : List (Str × Addr)) (pm cv ctv u : Value), bindArgs (kla_fn "<lambda>" q params body scope cl pm cv ctv) ⟨[u], []⟩ = pure [(x, u)]) (h5 : scope.kind = .function) (h6 : scope.isCoroutine = false) (h7 : scope.isGenerator = false)
    (h8 : (scope.names.all fun y => !decide (y.2 = .cell) && !decide (y.2 = .free)) = true) : StrL params body scope := by
  refine ⟨⟨x, p1, p2, p3, eb, h1, h2, h3, h4⟩, h5, h6, h7, fun y hy => ?_, fun y hy => ?_⟩
  · have := List.all_eq_true.mp h8 y hy
    simp only [Bool.and_eq_true, Bool.not_eq_true', decide_eq_false_iff_not] at this
    exact this.1
  · have := List.all_eq_true.mp h8 y hy
    simp only [Bool.and_eq_true, Bool.not_eq_true', decide_eq_false_iff_not] at this
    exact this.2
section
variable {Z : Cz} {f : Addr} {fd : FuncData}
theorem ok_isint (F : Fun Z.K "is_integer" "is_integer" s_is_integer f fd) (T : WdT Z) : Z.ok CX0 1 f fd ["value"] (spIsInt Z.K) := by
  refine F.ok sc_is_integer (fun vs H Q E h => ?_) (fun cdv A outer s H vs Q E hr h => ?_)
  · obtain ⟨v, t, rfl, _⟩ := h
    rfl
  · obtain ⟨v, t, rfl, ty, h⟩ := h
    refine ⟨_, (pss_one (ps_ret (pe_and (pe_callB call_isi (by rfl) T.isi (by decide +kernel) (pa_cons (pv 0) (pa_cons (pe_ty "int" (by rfl) T.int (by decide +kernel)) pa_nil))) (pe_one (pe_not (pe_callB call_isi (by rfl) T.isi (by decide +kernel) (pa_cons (pv 0) (pa_cons (pe_ty "bool" (by rfl) T.bool (by decide +kernel)) pa_nil)))))))), ?_⟩
    rcases h with ⟨rfl, q⟩ | ⟨rfl, q⟩ | ⟨e, q⟩
    · refine ⟨_, rfl, _, _, _, _, true, rfl, .ty "int", ty, kit_ty (by decide +kernel), _, rfl, iteT ?_⟩
      exact ⟨_, rfl, _, _, _, _, false, rfl, .ty "bool", ty, kit_ty (by decide +kernel), _, rfl, q⟩
    · refine ⟨_, rfl, _, _, _, _, true, rfl, .ty "int", ty, kit_ty (by decide +kernel), _, rfl, iteT ?_⟩
      exact ⟨_, rfl, _, _, _, _, true, rfl, .ty "bool", ty, kit_ty (by decide +kernel), _, rfl, q⟩
    · exact ⟨_, rfl, _, _, _, _, false, rfl, .ty "int", ty, e, _, rfl, iteF q⟩
theorem ok_is_word (F : Fun Z.K "is_word" "is_word" s_is_word f fd) (T : WdT Z) : Z.ok CX0 1 f fd ["value"] (spIsWord Z.K) := by
  refine F.ok sc_is_word (fun vs H Q E h => ?_) (fun cdv A outer s H vs Q E hr h => ?_)
  · obtain ⟨v, b, rfl, _⟩ := h
    rfl
  · obtain ⟨v, b, rfl, h, k⟩ := h
    obtain ⟨tl, gl⟩ := T.lets
    obtain ⟨tm, gm⟩ := T.ml
    refine ⟨_, (pss_cons (ps_if (PW.pt (pw_or (pt_not (pt_val (pe_callB call_isi (by rfl) T.isi (by decide +kernel) (pa_cons (pv 0) (pa_cons (pe_ty "str" (by rfl) T.str (by decide +kernel)) pa_nil))))) (pw_or1 (pt_not (pt_chain op_le op_le pe_int (pe_callB call_len (by rfl) T.len PySem.boot_len (pa_cons (pv 0) pa_nil)) (pe_glob (v := .int 8) rfl gm ⟨_, rfl⟩))))))
      (pss_one (ps_ret pe_bl))
      pss_nil)
      (pss_one (ps_ret (pe_callB (cr_all rfl) (by rfl) T.all (by decide +kernel) (pa_cons (pe_lc (own := [("sign", 1)]) (g := gName 1) (tt := tYes) (by rfl) sc_is_word.nd (pi_str (pv 0)) (blkOk_by (own := [("sign", 1)]) (N := ["value", "sign"]) (sc := defScope s_is_word) (by decide +kernel)) (fun _ _ _ _ _ => (pg_name (i := 1) sc_is_word.nd rfl (Or.inl rfl))) (fun _ _ _ _ _ => pts_nil) (fun _ _ _ _ _ => (pe_cmpR op_in_sign (pv 1) (pe_glob (v := .str letters) rfl gl ⟨_, rfl⟩) (by rfl)))) pa_nil))))), ?_⟩
    have k0 := k H (Same.refl _)
    cases h with
    | odd ty k1 => exact ⟨_, rfl, _, _, _, _, false, rfl, .ty "str", ty, k1, _, rfl, iteT k0⟩
    | str z hz =>
      refine ⟨_, rfl, _, _, _, _, true, rfl, .ty "str", .base (.str _), kit_ty (by decide +kernel), _, rfl, iteF ?_⟩
      refine ⟨_, rfl, .str z, z.length, rfl, ⟨hz, rfl⟩, _, _, rfl, rfl, _, rfl, ?_⟩
      have hnz : ∀ i : Nat, i < z.cps.size → ∃ c, z.cps[i]? = some c := fun i hi => ⟨z.cps[i], Array.getElem?_eq_getElem hi⟩
      by_cases h1 : 1 ≤ z.length
      · rw [decide_eq_true (show (1 : Int) ≤ ((z.length : Nat) : Int) by omega)]
        refine iteT ⟨_, _, rfl, rfl, _, rfl, ?_⟩
        by_cases h2 : z.length ≤ 8
        · rw [decide_eq_true (show ((z.length : Nat) : Int) ≤ 8 by omega)]
          refine iteF ⟨_, rfl, z, rfl, fun D hD => ?_⟩
          refine lcF hr_same walk_str (P := fun i v => ∃ c, z.cps[i]? = some c ∧ v = .str ⟨#[c]⟩) (fun _ _ _ _ h => h) (ys := (z.cps.toList.map fun c => decide (c ∈ letters.cps.toList)).map V.bl) ?_ ?_ hD trivial (fun _ _ => trivial) ?_ (fun H2 e2 hl => ?_)
          · simp
          · exact Nat.le_trans h2 (by decide)
          · rintro j x y H2 Qe ⟨c, hc, rfl⟩ hy e2 kk
            refine ⟨_, rfl, c, _, rfl, rfl, ?_⟩
            rw [List.getElem?_map, List.getElem?_map, Array.getElem?_toList, hc] at hy
            cases hy
            exact kk H2 (Same.refl _)
          · refine ⟨D, _, rfl, SqL.of hl, ?_⟩
            have e3 : isW z = (z.cps.toList.map fun c => decide (c ∈ letters.cps.toList)).all id := by
              unfold isW
              rw [decide_eq_true ⟨h1, h2⟩, Bool.true_and, List.all_map]
              rfl
            rw [← e3]
            exact k _ e2
        · rw [decide_eq_false (show ¬ ((z.length : Nat) : Int) ≤ 8 by omega)]
          have e3 : isW z = false := by
            unfold isW
            rw [decide_eq_false (show ¬ (1 ≤ z.length ∧ z.length ≤ 8) from fun h => h2 h.2), Bool.false_and]
          rw [e3] at k0
          exact iteT k0
      · rw [decide_eq_false (show ¬ (1 : Int) ≤ ((z.length : Nat) : Int) by omega)]
        have e3 : isW z = false := by
          unfold isW
          rw [decide_eq_false (show ¬ (1 ≤ z.length ∧ z.length ≤ 8) from fun h => h1 h.1), Bool.false_and]
        rw [e3] at k0
        exact iteF ⟨_, rfl, iteT k0⟩
theorem NnI.mono {K : Frag} {H H' : Hp} {v : V} (e : Same H H') (h : NnI K H v) : NnI K H' v := let ⟨t, ty, k⟩ := h; ⟨t, tyX_same e ty, k⟩
/-- sorted by texts -/
theorem ok_asc {T0 : List (Addr × Str)} (F : Fun Z.K "ascending" "ascending" s_ascending f fd) (T : WdT Z) (M : Mkr Z T0 fd.code "ascending.<locals>.<lambda>") : Z.ok CX0 2 f fd ["words"] (spAsc Z.K T0) := by
  refine Fun.okC F sc_ascending (fun vs H Q E h => ?_) (fun A outer s H vs Q E hr h => ?_)
  · obtain ⟨a, ys, rfl, _⟩ := h
    rfl
  · obtain ⟨a, ys, rfl, hT, hi, hk, k⟩ := h
    refine ⟨_, pss_one (ps_ret (pe_callBK (call_sortedStr (k := kTx) rfl T.str (hr.mono (by decide))) (by rfl) T.sorted (by decide +kernel) (pa_cons (pv 0) pa_nil) (pk_cons (pe_lamK (Z := Z) (T := T0) M (strL_by (x := "word") rfl rfl rfl (by decide) (fun _ _ _ _ _ _ => rfl) rfl rfl rfl (by decide +kernel))) pk_nil))), ?_⟩
    refine ⟨_, rfl, hT, fun l H1 g1 t1 kl => ⟨a, l, ys, rfl, rfl, kl, ?_, hk, fun p hp => k p _ (g1.trans (.new hp)) ?_ upd_same⟩⟩
    · rcases hi with hi | hi | ⟨kvs, hd, e⟩
      · exact .inl (g1.seq hi)
      · exact .inr (.inl (g1.seqT hi))
      · exact .inr (.inr ⟨kvs, g1.rdK hd, e⟩)
    · exact g1.f p hp
end
end Ps

/-! Rows: their making. -/
namespace Ps
open PySem PySem.Spec PyProof.Rows PySem.W L2 LamX

/-- the data of rows -/
structure RwD where
  ks : List Str
  nx : List (List Int)
  fs : List Int
/-- the i-th is a list of these ints -/
def IsInts (H : Hp) (r : V) (ns : List Int) : Prop := ∃ l, r = V.ref l ∧ H l = some (.lst (ns.map V.int))
/-- the lists of rows -/
structure RwL (H : Hp) (a b c : Addr) (R : RwD) : Prop where
  ks : H a = some (.lst (R.ks.map V.str))
  nx : ∃ rs, H b = some (.lst rs) ∧ Al (IsInts H) rs R.nx
  fs : H c = some (.lst (R.fs.map V.int))
structure KsG (ks : List Str) : Prop where
  l1 : 1 ≤ ks.length
  l8 : ks.length ≤ 8
  w : ∀ z ∈ ks, isW z = true
/-- rows that are right -/
structure RwG (R : RwD) : Prop where
  k : KsG R.ks
  nl : R.nx.length = R.ks.length
  nx : ∀ ns ∈ R.nx, (∀ n ∈ ns, 0 ≤ n ∧ n < R.ks.length) ∧ ns.Nodup
  fx : ∀ n ∈ R.fs, 0 ≤ n ∧ n < R.ks.length
  fd : R.fs.Nodup
  f0 : R.fs ≠ []
  nz : ∀ ns ∈ R.nx, ns.length ≤ 1000
  fz : R.fs.length ≤ 1000
def rwF (a b c : Addr) : List (Str × V) := [("own_kinds", .ref a), ("own_nexts", .ref b), ("own_firsts", .ref c)]
def RwAt (CR : Addr) (H : Hp) (v : V) (R : RwD) : Prop := ∃ x dx a b c, v = .ref x ∧ H x = some (.ins CR dx (rwF a b c)) ∧ RwL H a b c R
def srtI (ns : List Int) : List Int := ns.mergeSort fun a b => decide (a ≤ b)
def RwD.srt (R : RwD) : RwD := ⟨R.ks, R.nx.map srtI, srtI R.fs⟩
/-- no kinds, no nexts, no firsts -/
inductive KBad (K : Frag) (H : Hp) : V → Prop
  | odd {v : V} {t : Value} (ty : TyX K H v t) (k : kitOne K t (.type "list") = some false) : KBad K H v
  | len {a : Addr} {xs : List V} (h : H a = some (.lst xs)) (hl : xs.length = 0 ∨ 8 < xs.length) : KBad K H (.ref a)
  | word {a : Addr} {xs : List V} {bs : List Bool} (h : H a = some (.lst xs)) (h1 : 1 ≤ xs.length) (h8 : xs.length ≤ 8) (al : Al (WdB K H) xs bs) (hb : bs.all id = false) : KBad K H (.ref a)
inductive NBad (K : Frag) (H : Hp) (m : Nat) : V → Prop
  | odd {v : V} {t : Value} (ty : TyX K H v t) (k : kitOne K t (.type "list") = some false) : NBad K H m v
  | len {a : Addr} {xs : List V} (h : H a = some (.lst xs)) (hl : xs.length ≠ m) : NBad K H m (.ref a)
  | row {a : Addr} {xs : List V} {bs : List Bool} (h : H a = some (.lst xs)) (hl : xs.length = m) (al : Al (NdsB K m H) xs bs) (hb : bs.all id = false) : NBad K H m (.ref a)
inductive FBad (K : Frag) (H : Hp) (m : Nat) : V → Prop
  | odd {v : V} (h : NdsB K m H v false) : FBad K H m v
  | nil {c : Addr} (h : H c = some (.lst [])) : FBad K H m (.ref c)
/-- what the arguments of Rows bring -/
def RwO (K : Frag) (H : Hp) (v1 v2 v3 : V) (o : Str ⊕ RwD) : Prop := (KBad K H v1 ∧ o = .inl "kinds") ∨ ∃ a ks, v1 = .ref a ∧ H a = some (.lst (ks.map V.str)) ∧ KsG ks ∧ ((NBad K H ks.length v2 ∧ o = .inl "nexts") ∨
  ∃ b xs bs, v2 = .ref b ∧ H b = some (.lst xs) ∧ xs.length = ks.length ∧ Al (NdsB K ks.length H) xs bs ∧ bs.all id = true ∧ ((FBad K H ks.length v3 ∧ o = .inl "firsts") ∨ ∃ c R, v3 = .ref c ∧ RwL H a b c R ∧ RwG R ∧ R.ks = ks ∧ o = .inr R))
/-- the lists of the made rows are new -/
structure RwN (H H' : Hp) (a b c : Addr) : Prop where
  ka : H a = none
  kb : H b = none
  kc : H c = none
  kr : ∀ rs l, H' b = some (.lst rs) → V.ref l ∈ rs → H l = none
def spRows (K : Frag) (T : List (Addr × Str)) (CR CB : Addr) : Sp := fun vs H Q E => ∃ x dx v1 v2 v3 o, vs = [.ref x, v1, v2, v3] ∧ H x = some (.ins CR dx []) ∧ Tabs T H ∧ RwO K H v1 v2 v3 o ∧
  match o with
  | .inl z => Rz CB "field" (.str z) H E
  | .inr R => ∀ H' a b c, Gr T (some x) H H' → H' x = some (.ins CR dx (rwF a b c)) → RwL H' a b c R.srt → RwN H H' a b c → Q .non H'
/-! ### the plain side -/
theorem le_digits : ∀ a b : Fin 10, leTx kTx (.int (a.val : Nat)) (.int (b.val : Nat)) = decide ((a.val : Int) ≤ (b.val : Int)) := by decide +kernel
theorem le_digit {i j : Int} (h0 : 0 ≤ i) (h1 : i < 10) (h2 : 0 ≤ j) (h3 : j < 10) : leTx kTx (.int i) (.int j) = decide (i ≤ j) := by
  have := le_digits ⟨i.toNat, by omega⟩ ⟨j.toNat, by omega⟩
  have e1 : ((i.toNat : Nat) : Int) = i := by omega
  have e2 : ((j.toNat : Nat) : Int) = j := by omega
  rw [show ((⟨i.toNat, by omega⟩ : Fin 10).val : Nat) = i.toNat from rfl, show ((⟨j.toNat, by omega⟩ : Fin 10).val : Nat) = j.toNat from rfl, e1, e2] at this
  exact this
theorem srt_ints {ns : List Int} (h : ∀ n ∈ ns, 0 ≤ n ∧ n < 10) : srt (ns.map V.int) = (srtI ns).map V.int := by
  unfold srt srtI
  rw [List.map_mergeSort (f := V.int) (s := leTx kTx) fun a ha b hb => (le_digit (h a ha).1 (h a ha).2 (h b hb).1 (h b hb).2).symm]
theorem srtI_perm (ns : List Int) : (srtI ns).Perm ns := List.mergeSort_perm _ _
theorem srtI_sorted (ns : List Int) : (srtI ns).Pairwise (· ≤ ·) := by
  have h := List.pairwise_mergeSort (le := fun a b : Int => decide (a ≤ b)) (fun a b c h1 h2 => by simp at h1 h2 ⊢; omega) (fun a b => by simp; omega) ns
  exact h.imp fun z => by simpa using z
theorem srtI_of {ns : List Int} (h : ns.Pairwise (· < ·)) : srtI ns = ns :=
  (srtI_perm ns).eq_of_pairwise (fun a b _ _ h1 h2 => by omega) (srtI_sorted ns) (h.imp fun z => by omega)
theorem ktx_int {i : Int} (h0 : 0 ≤ i) (h1 : i < 10) : KTx (.int i) (kTx (.int i)) := .inr ⟨i, rfl, by
  have : i.natAbs < 10 := by omega
  exact Nat.lt_of_le_of_lt (Nat.log2_le_self _) (by omega), rfl⟩
theorem fl_fieldR : FlOk "field" := ⟨fun _ _ _ _ _ _ _ _ _ _ _ _ _ => rfl, fun _ _ => rfl, fun _ _ _ _ _ _ => rfl, fun _ _ _ _ _ _ => rfl, fun _ _ _ _ => rfl, fun _ _ _ _ => rfl, by decide⟩
/-- nodes that are right -/
theorem NdsB.mono {K : Frag} {m : Int} {H H' : Hp} {v : V} {b : Bool} (e : Same H H') (h : NdsB K m H v b) : NdsB K m H' v b := by
  cases h with
  | odd ty k => exact .odd (tyX_same e ty) k
  | bad h hl al hb => exact .bad (e _ _ h) hl (al.imp fun v b q => by
      cases q with
      | int n => exact .int n
      | odd ho => exact .odd (ho.mono e)) hb
  | nds h hl hn => exact .nds (e _ _ h) hl hn
theorem WdB.mono {K : Frag} {H H' : Hp} {v : V} {b : Bool} (e : Same H H') (h : WdB K H v b) : WdB K H' v b := by
  cases h with
  | str z h => exact .str z h
  | odd ty k => exact .odd (tyX_same e ty) k
theorem isW_len {z : Str} (h : isW z = true) : z.length ≤ sizeLine := by
  unfold isW at h
  have h1 := ((Bool.and_eq_true _ _).mp h).1
  have h2 := (of_decide_eq_true h1).2
  exact Nat.le_trans h2 (by decide)
theorem al_map {α : Type} {R : V → α → Prop} {β : Type} (f : β → V) (g : β → α) {l : List β} (h : ∀ x ∈ l, R (f x) (g x)) : Al R (l.map f) (l.map g) := by
  refine ⟨by simp, fun i v q h1 h2 => ?_⟩
  rw [List.getElem?_map] at h1 h2
  cases hx : l[i]? with
  | none => rw [hx] at h1; cases h1
  | some x =>
    rw [hx] at h1 h2
    cases h1
    cases h2
    exact h x (List.mem_of_getElem? hx)
theorem words_al {K : Frag} {H : Hp} {ks : List Str} (g : KsG ks) : Al (WdB K H) (ks.map V.str) (ks.map fun _ => true) := al_map V.str (fun _ => true) fun z hz => by
  have h := g.w z hz
  have q : WdB K H (.str z) (isW z) := .str z (isW_len h)
  rw [h] at q
  exact q
theorem RwL.nds {K : Frag} {H : Hp} {a b c : Addr} {R : RwD} (L : RwL H a b c R) (g : RwG R) : ∃ rs, H b = some (.lst rs) ∧ rs.length = R.ks.length ∧ Al (IsInts H) rs R.nx ∧ Al (NdsB K R.ks.length H) rs (R.nx.map fun _ => true) := by
  obtain ⟨rs, h, al⟩ := L.nx
  refine ⟨rs, h, al.1.trans g.nl, al, by rw [List.length_map]; exact al.1, fun i v q h1 h2 => ?_⟩
  rw [List.getElem?_map] at h2
  cases hn : R.nx[i]? with
  | none => rw [hn] at h2; cases h2
  | some ns =>
    rw [hn] at h2
    cases h2
    obtain ⟨l, rfl, hl⟩ := al.2 i v ns h1 hn
    obtain ⟨g1, g2⟩ := g.nx ns (List.mem_of_getElem? hn)
    have q : NdsB K R.ks.length H (.ref l) (decide ns.Nodup) := .nds hl (g.nz ns (List.mem_of_getElem? hn)) g1
    rw [decide_eq_true g2] at q
    exact q
/-- the class of rows -/
structure RwC (Z : Cz) (CR : Addr) : Prop where
  cl : Cls Z.K CR
  nK : NoAttr Z.K CR "own_kinds"
  nN : NoAttr Z.K CR "own_nexts"
  nF : NoAttr Z.K CR "own_firsts"
  mg : Z.mg "Rows" = some (.ref CR)
  ha : findIn Z.K (.ref CR) "__class__" = some (some (.builtin "object.__class__"))
  hn : specialIn Z.K (.builtin "object.__class__") "__get__" = some (some (.builtin "getset_descriptor.__get__"))
  htk : takesIn Z.K (.builtin "object.__class__") = some true
  hm : mroIn Z.K CR (.type "object") = some true
  kCC : kitOne Z.K (.ref CR) (.ref CR) = some true
theorem Gr.self {T : List (Addr × Str)} {H : Hp} {x C dx : Addr} {fs : List (Str × V)} {o : HO} (h : H x = some (.ins C dx fs)) : Gr T (some x) H (upd H x o) :=
  ⟨fun b u hb e _ => by
    rw [upd_ne fun z => hb (by rw [z])]
    exact e, fun t => tabs_put t h (fun _ z => by cases z) (fun _ _ z => by cases z), fun b h => upd_free (fun _ h => h) h⟩
section
variable {Z : Cz} {f CR CB P fB : Addr} {fd : FuncData}
end
end Ps

/-! The laws' own words, prices and rows. -/
namespace Ps
open PySem PySem.Spec PyProof.Rows PySem.W L2 LamX

section
variable {T : List (Addr × Str)} {p q : Addr} {ms : List Int} {H H1 : Hp}
theorem Gp.new {l : Addr} {o : HO} (n : H l = none) : Gp T p q ms H (upd H l o) := .same (Same.upd n)
theorem Gp.free (g : Gp T p q ms H H1) {b : Addr} (h : H1 b = none) : H b = none := g.g.f b h
theorem Gp.put (g : Gp T p q ms H H1) {D : Addr} {xs : List V} {ys : List V} (n : H D = none) (hD : H1 D = some (.lst xs)) : Gp T p q ms H (upd H1 D (.lst ys)) := hr_gp.put g n hD
theorem Gp.putD (g : Gp T p q ms H H1) {D : Addr} {xs : List (Key × V)} {o : HO} (n : H D = none) (hD : H1 D = some (.dK xs)) : Gp T p q ms H (upd H1 D o) := ⟨g.g.putD n hD, fun h0 => by
  obtain ⟨⟨i, h1⟩, h2⟩ := g.pl h0
  obtain ⟨⟨_, g1⟩, g2⟩ := h0
  exact ⟨⟨i, by rw [upd_ne (ne_of_none g1 n)]; exact h1⟩, by rw [upd_ne (ne_of_none g2 n)]; exact h2⟩⟩
theorem Pl.fresh (h : Pl H p q ms) {l : Addr} (n : H l = none) : l ≠ p := by
  obtain ⟨⟨i, h1⟩, _⟩ := h
  exact (ne_of_none h1 n).symm
end
theorem atI_of {xs : List V} {r : Int} {x : V} (h0 : 0 ≤ r) (h : xs[r.toNat]? = some x) : atI xs r = some x := by
  have e : r = ((r.toNat : Nat) : Int) := by omega
  rw [e]
  exact atI_nat h
/-- one of a list -/
def spPick (T : List (Addr × Str)) : Sp := fun vs H Q _ => ∃ (p q : Addr) (ms : List Int) (a : Addr) (xs : List V), vs = [.ref p, .ref a] ∧ Pl H p q ms ∧ H a = some (.lst xs) ∧ a ≠ p ∧ xs ≠ [] ∧ ∀ x H', x ∈ xs → Gp T p q ms H H' → Q x H'
def menu1 : List Str := ["a", "b", "c", "d", "e"]
def menu2 : List Str := ["few", "many", "odd", "x", "general"]
def menu3 : List Str := ["zz", "own", "abcdefgh", "b", "each"]
/-- all words of the laws' menus -/
def allW : List Str := menu1 ++ (menu2 ++ (menu3 ++ (["f", "g", "h", "bb"] : List Str)))
/-- words of a menu -/
structure WsG (ws : List Str) : Prop where
  l1 : 1 ≤ ws.length
  l6 : ws.length ≤ 6
  nd : ws.Nodup
  w : ∀ z ∈ ws, isW z = true
  o : ∀ z ∈ ws, allW.contains z = true
structure WsG5 (ws : List Str) : Prop extends WsG ws where
  l5 : ws.length ≤ 5
def wsB (ws : List Str) : Bool := decide (1 ≤ ws.length) && (decide (ws.length ≤ 6) && (decide ws.Nodup && (ws.all isW && ws.all fun z => allW.contains z)))
theorem wsB_ok {ws : List Str} (h : wsB ws = true) : WsG ws := by
  unfold wsB at h
  simp only [Bool.and_eq_true, decide_eq_true_eq, List.all_eq_true] at h
  exact ⟨h.1, h.2.1, h.2.2.1, h.2.2.2.1, h.2.2.2.2⟩
theorem menus_ok : ∀ m ∈ [menu1, menu2, menu3], ∀ a : Fin 5, ∀ n : Fin 5, wsB ((m.drop a.val ++ m.take a.val).take (n.val + 1)) = true := by decide +kernel
def menuN (i : Nat) : List Str := ([menu1, menu2, menu3][i]?).getD []
def cutW (i a n : Nat) : List Str := (((menuN i).drop a ++ (menuN i).take a)).take n
theorem cut_ok : ∀ i : Fin 3, ∀ a : Fin 5, ∀ n : Fin 5, cutV (cutV ((menuN i.val).map V.str) (some (a.val : Nat)) none ++ cutV ((menuN i.val).map V.str) none (some (a.val : Nat))) none (some ((n.val + 1 : Nat) : Int)) = (cutW i.val a.val (n.val + 1)).map V.str ∧ wsB (cutW i.val a.val (n.val + 1)) = true := by decide +kernel
theorem cut_len : ∀ i : Fin 3, ∀ a : Fin 5, (cutV ((menuN i.val).map V.str) (some (a.val : Nat)) none).length + (cutV ((menuN i.val).map V.str) none (some (a.val : Nat))).length ≤ 10 := by decide +kernel
def spWords (T : List (Addr × Str)) : Sp := fun vs H Q _ => ∃ (p q : Addr) (ms : List Int) (n : Int), vs = [.ref p, .int n] ∧ Pl H p q ms ∧ 1 ≤ n ∧ n ≤ 5 ∧ ∀ (ws : List Str) l H', WsG5 ws → Gp T p q ms H H' → H l = none → H' l = some (.lst (ws.map V.str)) → Q (.ref l) H'
/-- prices, drawn -/
structure PrD where
  make : Int
  gen : Int
  ks : List (Str × Int × Int)
structure PrG (P : PrD) : Prop where
  w : WsG (P.ks.map (·.1))
  m : 0 ≤ P.make ∧ P.make ≤ 12
  g : 0 ≤ P.gen ∧ P.gen ≤ 120
  k : ∀ x ∈ P.ks, (0 < x.2.1 ∧ x.2.1 ≤ 60) ∧ (0 < x.2.2 ∧ x.2.2 ≤ 600)
/-- the dict of kinds -/
def KiAt (H : Hp) (kvs : List (Key × V)) (ks : List (Str × Int × Int)) : Prop := kvs.length = ks.length ∧ ∀ (i : Nat) (kv : Key × V) (x : Str × Int × Int), kvs[i]? = some kv → ks[i]? = some x → kv.1 = .inr x.1 ∧ ∃ t, kv.2 = .ref t ∧ H t = some (.tup [.int x.2.1, .int x.2.2])
def PrAt (H : Hp) (v : V) (P : PrD) : Prop := ∃ d k kvs, v = .ref d ∧ H d = some (.dK [(.inr "make", .int P.make), (.inr "general", .int P.gen), (.inr "kinds", .ref k)]) ∧ H k = some (.dK kvs) ∧ KiAt H kvs P.ks
def spPrices (K : Frag) (T : List (Addr × Str)) : Sp := fun vs H Q _ => ∃ (p q : Addr) (ms : List Int) (a : Addr) (ws : List Str), vs = [.ref p, .ref a] ∧ Pl H p q ms ∧ H a = some (.lst (ws.map V.str)) ∧ a ≠ p ∧ WsG ws ∧ ∀ P v H', PrG P → P.ks.map (·.1) = ws → Gp T p q ms H H' → PrAt H' v P → Q v H'
theorem KiAt.keys {H : Hp} {kvs : List (Key × V)} {ks : List (Str × Int × Int)} (h : KiAt H kvs ks) : kvs.map (·.1) = ks.map fun x => (.inr x.1 : Key) := by
  apply List.ext_getElem?
  intro i
  rw [List.getElem?_map, List.getElem?_map]
  cases h1 : kvs[i]? with
  | none =>
    have := List.getElem?_eq_none_iff.mp h1
    have h2 : ks[i]? = none := List.getElem?_eq_none_iff.mpr (by rw [← h.1]; exact this)
    rw [h2]
    rfl
  | some kv =>
    have hi := (List.getElem?_eq_some_iff.mp h1).1
    have hi2 : i < ks.length := by rw [← h.1]; exact hi
    rw [List.getElem?_eq_getElem hi2]
    exact congrArg some (h.2 i kv ks[i] h1 (List.getElem?_eq_getElem hi2)).1
/-- a written list of ints -/
def litA : List Int → TA
  | [] => tNil
  | i :: r => tCons (tC (.int i)) (litA r)
theorem litA_ok : ∀ (L : List Int) {σ : L2.St} {H : Hp} {Q : List V → Hp → Prop}, Q (L.map V.int) H → litA L σ H Q
  | [], _, _, _, h => h
  | i :: r, _, _, _, h => litA_ok r h
theorem lit_draw {K : Frag} {T : List (Addr × Str)} {p q : Addr} {ms : List Int} {σ : L2.St} {H : Hp} {Q : VK} {E : XK} (L : List Int) {n : Int} (hn : n = L.length) (hL : L.length ≤ 1000) (h0 : 0 < n) (hσ : σ[0]? = some (some (.ref p))) (hP : Pl H p q ms)
    (k : ∀ i H', i ∈ L → Gp T p q ms H H' → Q (.int i) H') : tOp (rIxL K) (tLst (litA L)) (tCall (spDr T) [] E (tCons (tVar 0) (tCons (tC (.int n)) tNil))) σ H Q := by
  refine litA_ok L (Q := fun vs H1 => vs.length ≤ sizeLine ∧ ∀ l, H1 l = none → _) ⟨by rw [List.length_map]; exact Nat.le_of_lt (small1000' (by omega)), fun l hl => ?_⟩
  have g1 : Gp T p q ms H (upd H l (.lst (L.map V.int))) := .new hl
  refine ⟨_, hσ, p, q, ms, n, rfl, g1.pl hP, h0, fun r H2 r0 r1 g2 => ?_⟩
  have hr : r.toNat < L.length := by omega
  refine ⟨l, _, _, .int L[r.toNat], rfl, rfl, SqL.of (g2.at upd_same (hP.fresh hl)), atI_of r0 (by rw [List.getElem?_map, List.getElem?_eq_getElem hr]; rfl), k _ _ (List.getElem_mem hr) (g1.trans g2)⟩
section
variable {Z : Cz} {f : Addr} {fd : FuncData} {T0 : List (Addr × Str)}
theorem KiAt.gp {T : List (Addr × Str)} {p q : Addr} {ms : List Int} {H H1 : Hp} {kvs : List (Key × V)} {ks : List (Str × Int × Int)} (g : Gp T p q ms H H1) (hP : Pl H p q ms) (h : KiAt H kvs ks) : KiAt H1 kvs ks :=
  ⟨h.1, fun i kv x h1 h2 => by
    obtain ⟨e, t, e2, ht⟩ := h.2 i kv x h1 h2
    refine ⟨e, t, e2, g.at ht fun z => ?_⟩
    obtain ⟨⟨j, hp⟩, _⟩ := hP
    rw [z, hp] at ht
    cases ht⟩
theorem KiAt.upd {H : Hp} {D : Addr} {u : List (Key × V)} {o : HO} {kvs : List (Key × V)} {ks : List (Str × Int × Int)} (hD : H D = some (.dK u)) (h : KiAt H kvs ks) : KiAt (L2.upd H D o) kvs ks :=
  ⟨h.1, fun i kv x h1 h2 => by
    obtain ⟨e, t, e2, ht⟩ := h.2 i kv x h1 h2
    refine ⟨e, t, e2, ?_⟩
    rw [upd_ne fun z => by rw [z, hD] at ht; cases ht]
    exact ht⟩
theorem KiAt.snoc {H : Hp} {kvs : List (Key × V)} {ks : List (Str × Int × Int)} {w : Str} {a b : Int} {t : Addr} (h : KiAt H kvs ks) (ht : H t = some (.tup [.int a, .int b])) : KiAt H (kvs ++ [(.inr w, .ref t)]) (ks ++ [(w, a, b)]) := by
  refine ⟨by simp [h.1], fun i kv x h1 h2 => ?_⟩
  by_cases hi : i < kvs.length
  · rw [List.getElem?_append_left hi] at h1
    rw [List.getElem?_append_left (by rw [← h.1]; exact hi)] at h2
    exact h.2 i kv x h1 h2
  · rw [List.getElem?_append_right (by omega)] at h1
    rw [List.getElem?_append_right (by rw [← h.1]; omega), ← h.1] at h2
    cases hj : i - kvs.length with
    | zero =>
      rw [hj] at h1 h2
      cases h1
      cases h2
      exact ⟨rfl, t, rfl, ht⟩
    | succ j =>
      rw [hj] at h1
      cases h1
theorem KiAt.no {H : Hp} {kvs : List (Key × V)} {ks : List (Str × Int × Int)} {w : Str} (h : KiAt H kvs ks) (hw : w ∉ ks.map (·.1)) : valV kvs (.inr w) = none := by
  unfold valV
  rw [List.find?_eq_none.mpr fun kv hm => ?_]
  · rfl
  · obtain ⟨i, hi⟩ := List.getElem?_of_mem hm
    have hl := (List.getElem?_eq_some_iff.mp hi).1
    have hl2 : i < ks.length := by rw [← h.1]; exact hl
    have e := (h.2 i kv ks[i] hi (List.getElem?_eq_getElem hl2)).1
    intro z
    have z' : kv.1 = .inr w := by simpa using z
    rw [e] at z'
    exact hw (by rw [← Sum.inr.inj z']; exact List.mem_map_of_mem (List.getElem_mem hl2))
end
end Ps

/-! What a step of a law keeps: the pool apart from all else. -/
namespace Ps
open PySem PySem.Spec PyProof.Rows PySem.W L2 LamX

def spLawT (K : Frag) (T : List (Addr × Str)) : Sp := fun vs H Q _ => ∃ (a : Addr) (ns : List Int), vs = [.ref a] ∧ SqL K H a (ns.map V.int) ∧ ns.length ≤ 63 ∧ Tabs T H ∧ ∀ H', Q (.bl true) H'
section
variable {T : List (Addr × Str)} {p q : Addr} {ms : List Int} {H H1 H2 : Hp}
theorem notp {x : Addr} {xs : List V} (hP : Pl H p q ms) (hx : H x = some (.lst xs)) (h : ∀ (r : Addr) (i : Int), xs ≠ [.ref r, .int i]) : x ≠ p := fun z => by
  obtain ⟨⟨i, hp⟩, _⟩ := hP
  rw [z, hp] at hx
  exact h q i (HO.lst.inj (Option.some.inj hx)).symm
theorem notp_ints {ns : List Int} (r : Addr) (i : Int) : ns.map V.int ≠ [.ref r, .int i] := fun z => by
  cases ns with
  | nil => cases z
  | cons n r => cases (List.cons.inj z).1
theorem notp_strs {ns : List Str} (r : Addr) (i : Int) : ns.map V.str ≠ [.ref r, .int i] := fun z => by
  cases ns with
  | nil => cases z
  | cons n r => cases (List.cons.inj z).1
/-- the script is not the pool -/
theorem sq_gp {K : Frag} {a : Addr} {xs : List V} (hp : H p = none) (e : Same H H1) (g : Gp T p q ms H1 H2) (h : SqL K H a xs) : SqL K H2 a xs := by
  rcases h with (h | ⟨o, h⟩) | h
  · exact .inl (.inl (g.at (e _ _ h) (ne_of_none h hp)))
  · exact .inl (.inr ⟨o, g.at (e _ _ h) (ne_of_none h hp)⟩)
  · exact .inr h
/-- what is no list stays -/
theorem Gp.ob (g : Gp T p q ms H H1) (hP : Pl H p q ms) {b : Addr} {o : HO} (h : H b = some o) (n : ∀ xs, o ≠ .lst xs := by intro _ z; cases z) (nt : ∀ ps, o ≠ .tbl ps := by intro _ z; cases z) : H1 b = some o :=
  g.at h (fun z => by
    obtain ⟨⟨i, hp⟩, _⟩ := hP
    rw [z, hp] at h
    exact n _ (Option.some.inj h).symm) nt
theorem Gp.strs (g : Gp T p q ms H H1) (hP : Pl H p q ms) {b : Addr} {ws : List Str} (h : H b = some (.lst (ws.map V.str))) : H1 b = some (.lst (ws.map V.str)) := g.at h (notp hP h notp_strs)
theorem Gp.ints (g : Gp T p q ms H H1) (hP : Pl H p q ms) {b : Addr} {ws : List Int} (h : H b = some (.lst (ws.map V.int))) : H1 b = some (.lst (ws.map V.int)) := g.at h (notp hP h notp_ints)
theorem PrAt.gp {v : V} {P : PrD} (g : Gp T p q ms H H1) (hP : Pl H p q ms) (h : PrAt H v P) : PrAt H1 v P := by
  obtain ⟨d, k, kvs, rfl, h1, h2, h3⟩ := h
  exact ⟨d, k, kvs, rfl, g.ob hP h1, g.ob hP h2, h3.gp g hP⟩
end
/-- how many cells are looked at -/
theorem many_cells (ns : List Int) (m : Nat) (hm : 1 ≤ m) : ∃ n6 : Nat, (if (if (m : Int) < ((ns.map V.int).length : Nat) then (m : Int) else ((ns.map V.int).length : Nat)) > 1 then (if (m : Int) < ((ns.map V.int).length : Nat) then (m : Int) else ((ns.map V.int).length : Nat)) else 1) = (n6 : Int) ∧ (n6 ≤ ns.length ∨ (ns = [] ∧ n6 = 1)) ∧ n6 ≤ m := by
  rw [List.length_map]
  cases ns with
  | nil =>
    refine ⟨1, ?_, .inr ⟨rfl, rfl⟩, hm⟩
    rw [if_neg (show ¬ (m : Int) < ((([] : List Int).length : Nat) : Int) from by simp), if_neg (by decide)]
    rfl
  | cons x r =>
    by_cases h : (m : Int) < ((x :: r).length : Nat)
    · rw [if_pos h]
      refine ⟨m, ?_, .inl (by omega), by omega⟩
      by_cases h1 : (m : Int) > 1
      · rw [if_pos h1]
      · rw [if_neg h1]
        omega
    · rw [if_neg h]
      refine ⟨(x :: r).length, ?_, .inl (Nat.le_refl _), by omega⟩
      by_cases h1 : (((x :: r).length : Nat) : Int) > 1
      · rw [if_pos h1]
      · rw [if_neg h1]
        have : (x :: r).length ≥ 1 := by simp
        omega
end Ps

/-! x != []; one and the same object. -/
namespace Ps
open PySem PySem.Spec PyProof.Rows PySem.W L2
section
variable {X : Cx}
/-- one and the same object -/
def DSame : Eqb := fun x y b _ => ∃ a, x = .ref a ∧ y = .ref a ∧ b = true
theorem mon_same : MonB DSame := fun _ _ _ _ _ _ d => d
theorem eqB_same : EqB X 0 DSame := by
  intro A pins s σ H x y b u v sb I rx ry d
  obtain ⟨a, rfl, rfl, rfl⟩ := d
  cases rx
  cases ry
  exact SeqAt.EqAt.same (A := A) (s := s) (.ref a) X.prog X.w X.xe _ ⟨rfl, H, I, Same.refl _⟩
def DSF : Eqb := fun x y b H => DFl x y b H ∨ DSame x y b H
theorem mon_sf : MonB DSF := mon_fl.or mon_same
theorem eqB_sf : EqB X 0 DSF := eqB_fl.or eqB_same
/-- x != [] -/
def rNeNil (K : Frag) : R2 := fun x y H Q => ∃ l, y = .ref l ∧ SqL K H l [] ∧ ((∃ a xs, x = .ref a ∧ SqL K H a xs ∧ xs ≠ []) ∨ (∃ a xs, x = .ref a ∧ SqT K H a xs) ∨ x = .non ∨ (∃ z, x = .str z)) ∧ Q (.bl true) H
theorem op_neNil (hu : X.A.units < cLine) : OpR X (compareOp .NotEq) (rNeNil X.K) := by
  intro pins s σ H x y v u Q I rx ry h
  obtain ⟨l, rfl, hl, h, q⟩ := h
  cases (show u = Value.ref l from ry)
  obtain ⟨its, r0, p0, _⟩ := I.list hl
  cases r0
  show wpAny _ _ (richCompare .NotEq v (.ref l)) _ _ _
  rcases h with ⟨a, xs, rfl, ha, hx⟩ | ⟨a, xs, rfl, ha⟩ | rfl | ⟨z, rfl⟩
  · cases (show v = Value.ref a from rx)
    obtain ⟨its2, r2, p2, _⟩ := I.list ha
    have h0 : (its2.toArray.size != ([] : List Value).toArray.size) = true := by
      have := r2.length
      cases xs with
      | nil => exact absurd rfl hx
      | cons x r =>
        simp only [List.length_cons] at this
        simp [← this]
    exact SeqAt.RcNeAt.lists_lengths p2.isList p0.isList h0 hu X.prog X.w X.xe _ ⟨.bl true, H, I, rfl, q⟩
  · cases (show v = Value.ref a from rx)
    obtain ⟨its2, r2, p2, _⟩ := I.tuple ha
    exact SeqAt.RcNeAt.tuple_list p2 p0.isList hu X.prog X.w X.xe _ ⟨.bl true, H, I, rfl, q⟩
  · cases (show v = Value.none from rx)
    exact SeqAt.RcNeAt.none_list p0.isList hu X.prog X.w X.xe _ ⟨.bl true, H, I, rfl, q⟩
  · obtain ⟨t, rfl⟩ := rx
    exact SeqAt.RcNeAt.str_list z t p0.isList hu X.prog X.w X.xe _ ⟨.bl true, H, I, rfl, q⟩
end
end Ps

set_option maxHeartbeats 16000000
set_option pp.maxSteps 900
/-! k60: the law. -/
namespace Ps
open PySem PySem.Spec PyProof.Rows PySem.W L2 LamX

/-- a list of unlike items and its turned one -/
theorem nd_turn {α : Type} [DecidableEq α] {l : List α} (nd : l.Nodup) : decide (l = l.reverse) = decide (l.length < 2) := by
  refine decide_eq_decide.mpr ⟨fun h => ?_, fun h => ?_⟩
  · refine Nat.lt_of_not_le fun h2 => ?_
    have h0 : l[0]'(by omega) = l.reverse[0]'(by rw [List.length_reverse]; omega) := by
      congr 1
    rw [List.getElem_reverse] at h0
    exact List.pairwise_iff_getElem.mp nd 0 (l.length - 1 - 0) (by omega) (by omega) (by omega) h0
  · match l, h with
    | [], _ => rfl
    | [x], _ => rfl
structure M60 (Z : Cz) (T0 : List (Addr × Str)) (C CB CM CX : Addr) : Prop where
  o : L60 Z C CB CM CX
  range : Z.mg "range" = none
  list : Z.mg "list" = none
  int : Z.mg "int" = none
  min : Z.mg "min" = none
  max : Z.mg "max" = none
  plans : Cal Z CX0 4 "_law_plans" ["_law_script", "_law_many"] [] (spLPlans Z.K)
  unlike : Cal Z CX0 4 "_law_unlike" ["_law_plans_here"] [] spLUnlike
  mbook : CMBook Z C CB
  cell : Cal Z CX0 1 "_law_cell" ["_law_script", "_law_k"] [] (spLCell Z.K)
  direct : Cal Z CX0 17 "_law_direct" ["_law_one", "_law_two", "_law_three"] [] (spDirect T0 C CB)
  books : ∃ f fd, GFn Z.P Z.w Z.K Z.mg Z.base 1 f fd ["self"] (spMnBooks C CB CM) ∧ Meth Z.K CM "books" f ∧ Binds Z.K fd ["self"] []
  bne : NeT Z.K CB
  nol : kitOne Z.K (.type "list") (.ref CM) = some false
section
variable {Z : Cz} {T0 : List (Addr × Str)} {f C CB CM CX : Addr} {fd : FuncData}
theorem ok_law (F : Fun Z.K "law" "law" s_lw_law f fd) (W : M60 Z T0 C CB CM CX) (MK : Mkr Z T0 fd.code "law.<locals>.<lambda>") : Z.ok CX0 18 f fd ["_law_script"] (spLawT Z.K T0) := by
  refine Fun.okCd F sc_lw_law (fun vs H Q E h => ?_) (fun A outer s H vs Q E hr h => ?_)
  · obtain ⟨a, ns, rfl, _⟩ := h
    rfl
  · obtain ⟨a, ns, rfl, hS, h63, hT, k⟩ := h
    have T := W
    obtain ⟨fB, fdB, GB, mB, bB⟩ := W.books
    have c_lw_cell := W.cell
    have c_lw_plans := W.plans
    have c_lw_unlike := W.unlike
    have c_lw_made_book := W.mbook
    have c_lw_menu := W.o.menu
    have c_lw_direct := W.direct
    refine ⟨_, PSs.nox ((pss_cons (ps_set (i := 1) sc_lw_law.nd rfl (Or.inl rfl) (pe_cal c_lw_unlike (hr.mono (by decide)) (by rfl) pass0 (pa_cons (pe_cal c_lw_plans (hr.mono (by decide)) (by rfl) pass0 (pa_cons (pv 0) (pa_cons (pe_callB (call_min2 rfl) (by rfl) T.min (by decide +kernel) (pa_cons pe_int (pa_cons (pe_callB (call_max2 rfl) (by rfl) T.max (by decide +kernel) (pa_cons pe_int (pa_cons (pe_callB call_len_seq (by rfl) W.o.len PySem.boot_len (pa_cons (pv 0) pa_nil)) pa_nil))) pa_nil))) pa_nil))) pa_nil)))
      (pss_cons (ps_setLc (i := 2) (own := [("_law_plan_here", 3)]) (g := gName 3) (tt := tYes) (by rfl) sc_lw_law.nd rfl rfl (sw_true rfl rfl rfl (by decide +kernel)) (pi_list (pv 1)) (blkOk_by (own := [("_law_plan_here", 3)]) (N := ["_law_script", "_law_plans_here", "_law_books", "_law_plan_here", "_law_menu_here", "_law_many", "_law_k", "_law_value"]) (sc := defScope s_lw_law) (by decide +kernel)) (fun _ _ _ _ _ => (pg_name (i := 3) sc_lw_law.nd rfl (Or.inl rfl))) (fun _ _ _ _ _ => pts_nil) (fun _ _ _ _ _ => (pe_cal c_lw_made_book (hr.mono (by decide)) (by rfl) pass0 (pa_cons (pv 3) pa_nil))))
      (pss_cons (ps_asg (pe_tup (pa_cons (pe_cal c_lw_menu (hr.mono (by decide)) (by rfl) pass0 (pa_cons (pv 2) pa_nil)) (pa_cons (pe_callB call_len_seq (by rfl) W.o.len PySem.boot_len (pa_cons (pv 1) pa_nil)) pa_nil))) (pg_tup (by rfl) (pgs_cons (pg_name (i := 4) sc_lw_law.nd rfl (Or.inr rfl)) (pgs_cons (pg_name (i := 5) sc_lw_law.nd rfl (Or.inl rfl)) pgs_nil))))
      (pss_cons (ps_if (PW.pt (pw_or (pt_cmpR op_ne (pe_callB (len_cal W.o.lenO (hr.mono (by decide)) pass0) (by rfl) W.o.len PySem.boot_len (pa_cons (pv 4) pa_nil)) (pv 5) (nomark _)) (pw_or (pt_not (pt_cmpR (op_eqL mon_dBk (eqB_bk W.o.beq) (hr.mono (by decide))) (pe_listG (E := fun _ _ _ => False) (pgen_meth0 (pv 4) W.o.M.cl mB GB (hr.mono (by decide)) bB .nil) pass00 (fun _ _ _ z => z.elim) (hr.mono (by decide)) (by rfl) W.list (by decide +kernel)) (pv 2) (nomark _))) (pw_or (pt_not (pt_cmpR (op_cmp (op := .Eq) W.o.eq (hr.mono (by decide)) pass0) (pv 4) (pe_cal c_lw_menu (hr.mono (by decide)) (by rfl) pass0 (pa_cons (pv 2) pa_nil)) (nomark _))) (pw_or1 (pt_cmpR (op_cmp (op := .Eq) W.o.eq (hr.mono (by decide)) pass0) (pv 4) (pv 2) (nomark _)))))))
      (pss_one (ps_ret pe_bl))
      pss_nil)
      (C8.pss_cut (ps_for PassesOwn.never rfl (pi_range1 (by rfl) T.range (pa_cons (pv 5) pa_nil)) (pg_name (i := 6) sc_lw_law.nd rfl (Or.inl rfl))
      (pss_one (ps_if (PW.pt (pw_or (pt_cmpR (op_ne_ W.o.beq W.bne (hr.mono (by decide)) pass0) (pe_ixP W.o.get (hr.mono (by decide)) pass0 (pv 4) (pv 6)) (pe_cal c_lw_made_book (hr.mono (by decide)) (by rfl) pass0 (pa_cons (pe_ix ix_list (pv 1) (pv 6) (fun _ _ => rfl)) pa_nil)) (nomark _)) (pw_or1 (pt_cmpR (op_notInO W.o.inn (hr.mono (by decide))) (pe_cal c_lw_made_book (hr.mono (by decide)) (by rfl) pass0 (pa_cons (pe_ix ix_list (pv 1) (pv 6) (fun _ _ => rfl)) pa_nil)) (pv 4) (by rfl)))))
        (pss_one (ps_ret pe_bl))
        pss_nil)))
      (pss_cons (ps_if (pt_cmpR op_ne (pe_cmpR (op_cmp (op := .Eq) W.o.eq (hr.mono (by decide)) pass0) (pv 4) (pe_cal c_lw_menu (hr.mono (by decide)) (by rfl) pass0 (pa_cons (pe_revL (pv 2)) pa_nil)) (nomark _)) (pe_cmpR op_lt (pv 5) pe_int (nomark _)) (nomark _))
      (pss_one (ps_ret pe_bl))
      pss_nil)
      (C8.pss_cut (ps_if (PW.pt (pw_and (pt_cmpR op_gt (pv 5) pe_int (nomark _)) (pw_and1 (pt_not (pt_val (pe_cal c_lw_direct (hr.mono (by decide)) (by rfl) pass0 (pa_cons (pe_ix ix_list (pv 2) pe_int (fun _ _ => rfl)) (pa_cons (pe_ix ix_list (pv 2) (pe_op op_fdiv (pv 5) pe_int) (fun _ _ => rfl)) (pa_cons (pe_ix ix_list (pv 2) (pe_un un_neg pe_int) (fun _ _ => rfl)) pa_nil)))))))))
      (pss_one (ps_ret pe_bl))
      pss_nil)
      (pss_cons (ps_for PassesOwn.never rfl (pi_list (pe_lst (pa_cons (pv 5) (pa_cons (pe_un un_neg pe_int) (pa_cons (pe_op op_add (pv 5) (pe_op op_mod (pe_int1 (by rfl) T.int (pe_cal c_lw_cell (hr.mono (by decide)) (by rfl) pass0 (pa_cons (pv 0) (pa_cons pe_int pa_nil)))) pe_int)) (pa_cons pe_non (pa_cons pe_str (pa_cons pe_bl pa_nil)))))))) (pg_name (i := 7) sc_lw_law.nd rfl (Or.inl rfl))
      (pss_one (ps_if (pt_not (pt_val (pe_calL W.o.refu (hr.mono (by decide)) (by rfl) (pa_cons (pe_lamP (p := "_law_x") MK (lamP_by (sc := defScope s_lw_law) (by decide +kernel))) (pa_cons (pv 7) pa_nil)) (p := "_law_x") (lamP_by (sc := defScope s_lw_law) (by decide +kernel)) (show ("_law_x" : Str) ∉ (["_law_script", "_law_plans_here", "_law_books", "_law_plan_here", "_law_menu_here", "_law_many", "_law_k", "_law_value"] : List Str) by decide +kernel) (fun _ _ _ _ _ _ => rfl) (fun _ _ _ _ E2 _ _ hr2 => (pe_ixP W.o.getX (hr2.mono (by decide)) (passN takes_lam) (pv 4) (pv 8))))))
        (pss_one (ps_ret pe_bl))
        pss_nil)))
      (pss_one (ps_ret (pe_and (pe_cmpR op_eq (pe_callB (len_cal W.o.lenO (hr.mono (by decide)) pass0) (by rfl) W.o.len PySem.boot_len (pa_cons (pe_calCR0 W.o.new (hr.mono (by decide)) (by rfl) pass0) pa_nil)) pe_int (nomark _)) (pe_and (pe_cmpR (op_notInO W.o.inn (hr.mono (by decide))) pe_non (pv 4) (by rfl)) (pe_and (pe_cmpR (op_notInO W.o.inn (hr.mono (by decide))) (pe_ix ix_list (pv 1) pe_int (fun _ _ => rfl)) (pv 4) (by rfl)) (pe_one (pe_cmpR op_eq (pe_callB (len_cal W.o.lenO (hr.mono (by decide)) pass0) (by rfl) W.o.len PySem.boot_len (pa_cons (pv 4) pa_nil)) (pv 5) (nomark _))))))))))))))))), ?_⟩
    obtain ⟨n, hn, n1, n16⟩ : ∃ n : Nat, (if (if ((ns.map V.int).length : Int) > 1 then ((ns.map V.int).length : Int) else 1) < 16 then (if ((ns.map V.int).length : Int) > 1 then ((ns.map V.int).length : Int) else 1) else 16) = ((n : Nat) : Int) ∧ 1 ≤ n ∧ n ≤ 16 := by
      refine ⟨min 16 (max 1 (ns.map V.int).length), ?_, by omega, by omega⟩
      split <;> split <;> omega
    refine ⟨_, rfl, _, rfl, a, _, rfl, .inl hS, _, _, rfl, _, _, rfl, a, ns, n, ?_, hS, by omega, fun p1 H1 xs ps e1 h1 hps hpl => ?_⟩
    · rw [← hn]
      rfl
    refine ⟨p1, xs, ps, rfl, h1, hps, by omega, fun p2 H2 ys qs e2 h2 hqs nd hql hqne => ?_⟩
    have e02 := e1.trans e2
    have hS2 := e02.seq hS
    have hne : qs ≠ [] := hqne fun z => by rw [z] at hpl; simp at hpl; omega
    have hq16 : qs.length ≤ 16 := by omega
    have hyl := hqs.1
    clear hql hqne hpl hps h1 e2 e1
    -- the books
    refine ⟨_, rfl, p2, rfl, ⟨_, SqL.of h2⟩, fun L hL => ?_⟩
    refine lcR hr_same (walk_list (K := Z.K) (a := p2) (xs := ys)) yat (bs := qs) (fun y p H' => BkAt C CB H' y (bkOfPl p)) hyl.symm (by omega) hL trivial (fun H7 e7 => SqL.of (e7 _ _ h2)) (fun y p H7 H8 h e => h.mono e) (fun y p H7 xs zs h hD => h.put hD) ?_ ?_
    · rintro j x p H7 acc Qe hx hb e7 hD kk
      obtain ⟨ap, vf, va, rfl, hpl, hok⟩ := (hqs.2 j x p hx hb).mono e7
      exact ⟨_, rfl, ap, p, vf, va, rfl, hpl, hok, fun v H8 e8 h8 => kk v H8 e8 h8⟩
    rintro H3 bv e3 hL3 al3
    have e3' : Same H2 H3 := e3
    have hbv : Bks C CB H3 bv (qs.map bkOfPl) := al_mapR al3
    have bl : (qs.map bkOfPl).length = qs.length := List.length_map ..
    have hbl := hbv.1
    have h3 := e3' _ _ h2
    have hqs3 := hqs.mono e3'
    refine ⟨_, rfl, L, bv, _, rfl, hL3, hbv, nd, by omega, fun m H4 e4 hm => ?_⟩
    have h4 := e4 _ _ h3
    refine ⟨_, rfl, p2, _, rfl, .inl (SqL.of h4), ?_⟩
    refine ⟨(by show 2 ≤ sizeLine; decide), fun t ht => ⟨t, _, rfl, SqT.of upd_same, rfl, _, _, rfl, _, _, rfl, rfl, ?_⟩⟩
    have et := Same.upd (o := .tup [m, .int ((ys.length : Nat) : Int)]) ht
    have hm := hm.mono et
    have e2t := e3'.trans (e4.trans et)
    have hL5 := et _ _ (e4 _ _ hL3)
    have hbv5 := hbv.mono (e4.trans et)
    have h5 := e2t _ _ h2
    have hqs5 := hqs.mono e2t
    have hT5 := (hT.ext e02).ext e2t
    have hS5 := e2t.seq hS2
    generalize upd H4 t (.tup [m, .int ((ys.length : Nat) : Int)]) = H5 at hm hL5 hbv5 h5 hqs5 hT5 hS5 ⊢
    clear et e2t h4 e4 ht h3 hqs3 hbv hL3 al3 e3' e3 hS2 e02
    have nf : ∀ {H' : Hp} {v : V} {bs : List Bk}, MnAt C CB CM H' v bs → Nf Z.K CM H' v := fun h => ⟨_, mn_ty W.o.M h, nf_own⟩
    have bkI : ∀ {H' : Hp} {v : V} {b : Bk}, BkAt C CB H' v b → InsC CB H' v ∧ Nf Z.K CB H' v := fun h => by
      obtain ⟨a1, dx1, d1, rfl, ha1, _⟩ := h
      exact ⟨⟨a1, dx1, _, rfl, ha1⟩, ⟨_, .base (.ins ha1 W.o.kb.cl W.o.j.ha W.o.j.hn W.o.j.htk W.o.j.hm), nf_own⟩⟩
    refine ⟨_, rfl, _, rfl, hm.ins, _, _, rfl, hm, _, rfl, by omega, _, rfl, rfl, _, rfl, ?_⟩
    rw [show decide (V.int (((qs.map bkOfPl).length : Nat) : Int) = V.int ((ys.length : Nat) : Int)) = true from decide_eq_true (by rw [bl, hyl])]
    refine iteF ?_
    obtain ⟨ua, udx, ul, uxs, rfl, hua, _⟩ := id hm
    refine ⟨_, rfl, ua, udx, _, rfl, hua, rfl, _, _, rfl, hm, fun oxs hox po hpo => ?_⟩
    have eo := Same.upd (o := .lst oxs) hpo
    have hLB : LstB (dBk C CB) (upd H5 po (.lst oxs)) oxs bv true := by
      have := LstB.of (D := dBk C CB) (H := upd H5 po (.lst oxs)) (as := qs.map bkOfPl) (bs := qs.map bkOfPl) hox.1 hbv5.1 fun i x y p q h1 h2 h3 h4 => dBk_of ((hox.2 i x p h1 h3).mono eo) ((hbv5.2 i y q h2 h4).mono eo)
      rw [decide_eq_true rfl] at this
      exact this
    refine ⟨_, rfl, po, L, oxs, bv, true, rfl, rfl, SqL.of upd_same, SqL.of (eo _ _ hL5), hLB, fun H6 e6 => ⟨_, rfl, iteF ?_⟩⟩
    have e56 := eo.trans e6
    have hm6 := hm.mono e56
    refine ⟨_, rfl, _, rfl, L, bv, _, rfl, e56 _ _ hL5, hbv5.mono e56, nd, by omega, fun w H7 e7 hw => ?_⟩
    have hm7 := hm6.mono e7
    refine ⟨hm7.ins, nf hw, _, _, _, rfl, hm7, .inl ⟨_, hw, fun H8 e8 => ⟨true, by rw [decide_eq_true rfl], iteF ?_⟩⟩⟩
    have e58 := e56.trans (e7.trans e8)
    have hm8 := hm.mono e58
    have hL8 := e58 _ _ hL5
    refine ⟨_, rfl, _, rfl, hm8.ins, ⟨_, .base (.lst hL8), nf_ty (by decide +kernel)⟩, _, _, _, rfl, hm8, .inr ⟨⟨_, .base (.lst hL8), W.nol⟩, _, rfl, iteF ?_⟩⟩
    have hbv8 := hbv5.mono e58
    have h8 := e58 _ _ h5
    have hqs8 := hqs5.mono e58
    have hT8 := hT5.ext e58
    have hS8 := e58.seq hS5
    clear hm hm6 hm7 hw hL5 hbv5 h5 hqs5 hT5 hS5 e58 e56 eo e6 e7 e8 hLB hox
    -- each item
    refine ⟨fun σ' H' => ∃ o, σ' = [some (.ref a), some (.ref p2), some (.ref L), none, some (.ref ua), some (.int ((ys.length : Nat) : Int)), o, none] ∧ Same H8 H', ?_, ?_⟩
    · refine ⟨_, rfl, ys.length, rfl, by omega, by omega, for_range (n := ((ys.length : Nat) : Int).toNat) (fun i σ' H' => ∃ o, σ' = [some (.ref a), some (.ref p2), some (.ref L), none, some (.ref ua), some (.int ((ys.length : Nat) : Int)), o, none] ∧ Same H8 H') ⟨_, rfl, .refl _⟩ ?_ ?_⟩
      · rintro j σ' H9 hj ⟨o, rfl, e9⟩
        have hj' : j < qs.length := by omega
        have hz : (0 : Int) + ((j : Nat) : Int) = ((j : Nat) : Int) := by omega
        show tIfS _ _ _ _ [some (.ref a), some (.ref p2), some (.ref L), none, some (.ref ua), some (.int ((ys.length : Nat) : Int)), some (V.int (0 + ((j : Nat) : Int))), none] H9
        rw [hz]
        obtain ⟨p, hp⟩ : ∃ p, qs[j]? = some p := ⟨_, List.getElem?_eq_getElem hj'⟩
        obtain ⟨y, hy⟩ : ∃ y, ys[j]? = some y := ⟨ys[j]'(by omega), List.getElem?_eq_getElem _⟩
        have hb : (qs.map bkOfPl)[j]? = some (bkOfPl p) := by rw [List.getElem?_map, hp]; rfl
        have hm9 := hm8.mono e9
        refine ⟨_, rfl, _, rfl, hm9.ins, _, j, _, _, rfl, hm9, hb, fun u H10 e10 hu => ?_⟩
        obtain ⟨ap, vf, va, rfl, hpl, hok⟩ := ((hqs8.2 j y p hy hp).mono e9).mono e10
        refine ⟨_, rfl, _, rfl, p2, ys, _, _, rfl, rfl, SqL.of (e10 _ _ (e9 _ _ h8)), atI_nat hy, ap, p, vf, va, rfl, hpl, hok, fun v H11 e11 hv => ?_⟩
        have hu11 := hu.mono e11
        refine ⟨(bkI hu11).1, (bkI hv).2, u, v, _, rfl, hu11, .inl ⟨_, hv, fun H12 e12 => ⟨true, by rw [decide_eq_true rfl], _, rfl, iteF ?_⟩⟩⟩
        have e912 := e10.trans (e11.trans e12)
        have hpl12 := hpl.mono (e11.trans e12)
        refine ⟨_, rfl, _, rfl, p2, ys, _, _, rfl, rfl, SqL.of (e912 _ _ (e9 _ _ h8)), atI_nat hy, ap, p, vf, va, rfl, hpl12, hok, fun v2 H13 e13 hv2 => ?_⟩
        have hm13 := hm9.mono (e912.trans e13)
        refine ⟨_, rfl, hm13.ins, _, _, _, rfl, hm13, .inl ⟨_, hv2, fun H14 e14 => ⟨true, by rw [decide_eq_true (List.mem_of_getElem? hb)], _, rfl, iteF ?_⟩⟩⟩
        exact ⟨_, rfl, e9.trans (e912.trans (e13.trans e14))⟩
      · rintro σ' H9 ⟨o, rfl, e9⟩
        exact ⟨_, rfl, e9⟩
    rintro σ' H9 ⟨o, rfl, e9⟩
    have hm9 := hm8.mono e9
    have hL9 := e9 _ _ hL8
    have hbv9 := hbv8.mono e9
    have h9 := e9 _ _ h8
    have hqs9 := hqs8.mono e9
    have hT9 := hT8.ext e9
    have hS9 := e9.seq hS8
    clear hm8 hL8 hbv8 h8 hqs8 hT8 hS8
    -- the turned menu
    refine ⟨_, rfl, _, rfl, L, _, rfl, SqL.of hL9, fun lr hlr => ?_⟩
    have er := Same.upd (o := .lst bv.reverse) hlr
    refine ⟨lr, _, (qs.map bkOfPl).reverse, rfl, upd_same, (al_rev hbv9).imp (fun _ _ h => h.mono er), List.pairwise_reverse.mpr (nd.imp fun h => h.symm), by rw [List.length_reverse]; omega, fun w H10 e10 hw => ?_⟩
    have hm10 := hm9.mono (er.trans e10)
    refine ⟨hm10.ins, nf hw, _, _, _, rfl, hm10, .inl ⟨_, hw, fun H11 e11 => ⟨_, rfl, _, _, rfl, rfl, rfl, _, rfl, ?_⟩⟩⟩
    rw [nd_turn nd, bl, show decide (qs.length < 2) = decide (((ys.length : Nat) : Int) < 2) from decide_eq_decide.mpr (by omega)]
    rw [decide_eq_true (show V.bl (decide (((ys.length : Nat) : Int) < 2)) = V.bl (decide (((ys.length : Nat) : Int) < 2)) from rfl)]
    refine iteF ?_
    have e9b := er.trans (e10.trans e11)
    have hm11 := hm9.mono e9b
    have hL11 := e9b _ _ hL9
    have hbv11 := hbv9.mono e9b
    have h11 := e9b _ _ h9
    have hqs11 := hqs9.mono e9b
    have hT11 := hT9.ext e9b
    have hS11 := e9b.seq hS9
    clear hm9 hL9 hbv9 h9 hqs9 hT9 hS9 hm10 hw e10 e11 er
    -- three of them
    refine ⟨fun σ' H' => σ' = [some (.ref a), some (.ref p2), some (.ref L), none, some (.ref ua), some (.int ((ys.length : Nat) : Int)), o, none] ∧ Gr T0 none H11 H', ?_, ?_⟩
    · refine ⟨_, rfl, _, _, rfl, rfl, _, rfl, iteD (fun h2 => ?_) (fun _ => iteF ⟨rfl, .refl _⟩)⟩
      have h2' : 2 < bv.length := by omega
      obtain ⟨x0, hx0⟩ : ∃ x, bv[0]? = some x := ⟨_, List.getElem?_eq_getElem (by omega)⟩
      obtain ⟨x1, hx1⟩ : ∃ x, bv[bv.length / 2]? = some x := ⟨_, List.getElem?_eq_getElem (by omega)⟩
      obtain ⟨x2, hx2⟩ : ∃ x, bv[bv.length - 1]? = some x := ⟨_, List.getElem?_eq_getElem (by omega)⟩
      obtain ⟨b0, hb0, k0⟩ := hbv11.get hx0
      obtain ⟨b1, hb1, k1⟩ := hbv11.get hx1
      obtain ⟨b2, hb2, k2⟩ := hbv11.get hx2
      refine ⟨_, rfl, L, bv, _, _, rfl, rfl, SqL.of hL11, atI_nat (j := 0) hx0, _, rfl, _, rfl, _, _, rfl, rfl, ⟨by decide, by decide⟩, L, bv, _, x1, rfl, rfl, SqL.of hL11, ?_, ?_⟩
      · have : ((ys.length : Nat) : Int) / 2 = ((bv.length / 2 : Nat) : Int) := by omega
        rw [this]
        exact atI_nat hx1
      refine ⟨_, rfl, _, rfl, L, bv, _, x2, rfl, rfl, SqL.of hL11, ?_, x0, x1, x2, b0, b1, b2, rfl, k0, k1, k2, ?_, hT11, fun H' g => ⟨_, rfl, iteF ⟨rfl, g⟩⟩⟩
      · unfold atI ixN
        rw [if_neg (by omega), if_pos (by omega)]
        have : (-1 + ((bv.length : Nat) : Int)).toNat = bv.length - 1 := by omega
        rw [this]
        exact hx2
      · have pw := fun i j (hij : i < j) (hj : j < (qs.map bkOfPl).length) => List.pairwise_iff_getElem.mp nd i j (by omega) hj hij
        have g0 := (List.getElem?_eq_some_iff.mp hb0)
        have g1 := (List.getElem?_eq_some_iff.mp hb1)
        have g2 := (List.getElem?_eq_some_iff.mp hb2)
        obtain ⟨l0, g0⟩ := g0
        obtain ⟨l1, g1⟩ := g1
        obtain ⟨l2, g2⟩ := g2
        have p01 := pw 0 (bv.length / 2) (by omega) l1
        have p02 := pw 0 (bv.length - 1) (by omega) l2
        have p12 := pw (bv.length / 2) (bv.length - 1) (by omega) l2
        rw [g0, g1] at p01
        rw [g0, g2] at p02
        rw [g1, g2] at p12
        simp [p01, p02, p12]
    rintro σ' H12 ⟨rfl, g12⟩
    have hm12 := hm11.gr g12
    have hT12 := g12.t hT11
    have hS12 := g12.seq hS11
    have h12 := g12.at h11
    have hqs12 : Pls H12 ys qs := hqs11.imp fun _ _ ⟨a1, vf, va, q1, q2, q3⟩ => ⟨a1, vf, va, q1, ⟨g12.at q2.d, q2.f.mono fun b xs e => g12.at e, q2.a.mono fun b xs e => g12.at e⟩, q3⟩
    -- numbers that are none
    refine ⟨_, rfl, _, rfl, _, rfl, _, rfl, a, ns, 1, rfl, hS12, by omega, fun c => ?_⟩
    refine ⟨_, rfl, _, _, rfl, rfl, (by show (0 : Int) < 99; decide), _, _, rfl, rfl, (by show 6 ≤ sizeLine; decide), fun vl hvl => ?_⟩
    have c0 : 0 ≤ c % 99 := Int.emod_nonneg _ (by decide)
    generalize hmany : ((ys.length : Nat) : Int) = many
    refine ⟨vl, rfl, ⟨_, SqL.of upd_same⟩, ?_⟩
    have ev := Same.upd (o := .lst [.int many, .int (-1), .int (many + c % 99), .non, .str "0", .bl false]) hvl
    have hvl1 : (upd H12 vl (.lst [.int many, .int (-1), .int (many + c % 99), .non, .str "0", .bl false])) vl = some (.lst [.int many, .int (-1), .int (many + c % 99), .non, .str "0", .bl false]) := upd_same
    have hm13 := hm12.mono ev
    have hT13 := hT12.ext ev
    have h13 := ev _ _ h12
    have hqs13 := hqs12.mono ev
    generalize upd H12 vl (.lst [.int many, .int (-1), .int (many + c % 99), .non, .str "0", .bl false]) = G0 at hvl1 hm13 hT13 h13 hqs13 ⊢
    refine for_list (K := Z.K) (a := vl) (xs := [.int many, .int (-1), .int (many + c % 99), .non, .str "0", .bl false]) (fun i σ' H' => ∃ o7, σ' = [some (.ref a), some (.ref p2), some (.ref L), none, some (.ref ua), some (.int many), o, o7] ∧ Gr T0 none G0 H') ⟨_, rfl, .refl _⟩ ?_ ?_ ?_
    · rintro i σ' H' hi ⟨o7, rfl, g⟩
      exact SqL.of (g.at hvl1)
    · rintro i y σ' H' hy ⟨o7, rfl, g⟩
      have hy' := List.mem_of_getElem? hy
      have hT1 := g.t hT13
      have hma := hm13.gr g
      have cond : ∀ G : Hp, scal y y = true ∧ (∃ t b, TyX Z.K G y t ∧ kitOne Z.K t (.type "bool") = some b) ∧ (NotI Z.K G y ∨ ∃ i : Int, y = .int i ∧ (i < 0 ∨ ((qs.map bkOfPl).length : Int) ≤ i)) := fun G => by
        simp only [List.mem_cons, List.not_mem_nil, or_false] at hy'
        rcases hy' with rfl | rfl | rfl | rfl | rfl | rfl
        · exact ⟨rfl, ⟨_, false, .base (.int _), kit_ty (by decide +kernel)⟩, .inr ⟨_, rfl, .inr (by omega)⟩⟩
        · exact ⟨rfl, ⟨_, false, .base (.int _), kit_ty (by decide +kernel)⟩, .inr ⟨_, rfl, .inl (by decide)⟩⟩
        · exact ⟨rfl, ⟨_, false, .base (.int _), kit_ty (by decide +kernel)⟩, .inr ⟨_, rfl, .inr (by omega)⟩⟩
        · exact ⟨rfl, ⟨_, false, .base .non, kit_ty (by decide +kernel)⟩, .inl ⟨_, .base .non, .inr (kit_ty (by decide +kernel))⟩⟩
        · exact ⟨rfl, ⟨_, false, .base (.str _), kit_ty (by decide +kernel)⟩, .inl ⟨_, .base (.str _), .inr (kit_ty (by decide +kernel))⟩⟩
        · exact ⟨rfl, ⟨_, true, .base (.bl _), kit_ty (by decide +kernel)⟩, .inl ⟨_, .base (.bl _), .inl rfl⟩⟩
      refine ⟨hT1, fun f1 G1 g1 t1 la1 => ⟨_, rfl, f1, rfl, f1, y, rfl, la1.is, fun E2 Qn hE => ⟨la1, ?_⟩⟩⟩
      have ma1 := hma.gr g1
      refine ⟨_, rfl, _, rfl, ma1.ins, _, y, _, rfl, ma1, .inr ⟨(cond G1).2.2, fun d K1 k1 hd hx => hE _ _ _ ⟨rfl, d, rfl, hx, .inl (cond K1).1, (cond K1).2.1, fun M1 m1 => ?_⟩⟩⟩
      exact ⟨_, rfl, iteF ⟨_, rfl, g.trans (g1.trans (.of (k1.trans m1)))⟩⟩
    · rintro σ' H' ⟨o7, rfl, g⟩
      have hme := hm13.gr g
      have he := g.at h13
      intro x dx hx hdx hne'
      refine mk_menu hx hdx hne' (ys := []) (bs := []) Al.nil (by simp) (by decide) fun H20 e20 h20 => ⟨rfl, ?_⟩
      refine ⟨_, rfl, h20.ins, _, _, rfl, h20, _, rfl, (by show 0 ≤ 100000; decide), rfl, true, congrArg V.bl (decide_eq_true rfl), iteT ?_⟩
      have hmf := hme.mono e20
      refine ⟨_, rfl, hmf.ins, _, _, _, rfl, hmf, .inr ⟨⟨_, .base .non, W.o.nob.2.1⟩, false, rfl, true, rfl, iteT ?_⟩⟩
      obtain ⟨p0, hp0⟩ : ∃ p, qs[0]? = some p := ⟨_, List.getElem?_eq_getElem (List.length_pos_iff.mpr hne)⟩
      obtain ⟨y0, hy0⟩ : ∃ y, ys[0]? = some y := ⟨ys[0]'(by have := List.length_pos_iff.mpr hne; omega), List.getElem?_eq_getElem _⟩
      obtain ⟨ap, vf, va, rfl, hpl, hok⟩ := hqs13.2 0 y0 p0 hy0 hp0
      refine ⟨_, rfl, p2, ys, _, .ref ap, rfl, rfl, SqL.of (e20 _ _ he), atI_nat (j := 0) hy0, _, rfl, hmf.ins, _, _, _, rfl, hmf, .inr ⟨⟨_, .base (.dK (e20 _ _ (g.at hpl.d))), W.o.nob.2.2⟩, false, rfl, true, rfl, iteT ?_⟩⟩
      refine ⟨_, rfl, _, rfl, hmf.ins, _, _, rfl, hmf, _, rfl, by omega, _, rfl, rfl, ?_⟩
      rw [show decide (V.int (((qs.map bkOfPl).length : Nat) : Int) = V.int many) = true from decide_eq_true (by rw [← hmany]; congr 1; omega)]
      exact k _
end
end Ps

/-! k60: the end. -/
namespace Ps
open PySem PySem.Spec PyProof.Rows PySem.W L2 He


theorem facts {P : Program} {w : World} {K : Frag} {h : Heap} {mg : Str → Option Value} {f : Addr} (X : K.In h) (G : h.Ns mainGlobals mg) (hfa : mg ("law" : Str) = some (.ref f)) (c : SaysP fnAll exAll K) (t : TabsH mkAll K h) :
    ∃ fd : FuncData, (∀ (s : Shared) (v : Value), BindsTo s fd ⟨[v], []⟩ [("_law_script", v)]) ∧ ∀ base : Heap, K.In base → base.Ns mainGlobals mg → (∀ p ∈ tabsOf mkAll K, LamX.TabB base mg p.1 p.2) → FnG P w K mg base CX0 18 f fd ["_law_script"] (spLawT K (tabsT mkAll K)) := by
  obtain ⟨f_is_integer, fd_is_integer, g_is_integer⟩ := c.glo X G 0 rfl
  obtain ⟨f_common, fd_common, g_common⟩ := c.glo X G 1 rfl
  obtain ⟨f_share_of_number, fd_share_of_number, g_share_of_number⟩ := c.glo X G 2 rfl
  obtain ⟨_, fd_3, F_3⟩ := c.def_ 3 rfl
  obtain ⟨_, fd_4, F_4⟩ := c.def_ 4 rfl
  obtain ⟨f_BadMenu_dd_init, fd_BadMenu_dd_init, g_BadMenu_dd_init⟩ := c.meth 5 rfl
  obtain ⟨f_Share_dd_add, fd_Share_dd_add, g_Share_dd_add⟩ := c.meth 6 rfl
  obtain ⟨f_Share_minus, fd_Share_minus, g_Share_minus⟩ := c.meth 7 rfl
  obtain ⟨f_Share_dd_gt, fd_Share_dd_gt, g_Share_dd_gt⟩ := c.meth 8 rfl
  obtain ⟨f_Share_dd_ge, fd_Share_dd_ge, g_Share_dd_ge⟩ := c.meth 9 rfl
  obtain ⟨f_Share_dd_eq, fd_Share_dd_eq, g_Share_dd_eq⟩ := c.meth 10 rfl
  obtain ⟨f_is_number, fd_is_number, g_is_number⟩ := c.glo X G 11 rfl
  obtain ⟨f_is_above, fd_is_above, g_is_above⟩ := c.glo X G 12 rfl
  obtain ⟨f_is_after, fd_is_after, g_is_after⟩ := c.glo X G 13 rfl
  obtain ⟨f_is_setting, fd_is_setting, g_is_setting⟩ := c.glo X G 14 rfl
  obtain ⟨f_as_kept, fd_as_kept, g_as_kept⟩ := c.glo X G 15 rfl
  obtain ⟨f_Book_dd_eq, fd_Book_dd_eq, g_Book_dd_eq⟩ := c.meth 16 rfl
  obtain ⟨f_check_menu, fd_check_menu, g_check_menu⟩ := c.glo X G 17 rfl
  obtain ⟨f_Menu_dd_init, fd_Menu_dd_init, g_Menu_dd_init⟩ := c.meth 18 rfl
  obtain ⟨f_Menu_dd_len, fd_Menu_dd_len, g_Menu_dd_len⟩ := c.meth 19 rfl
  obtain ⟨f_Menu_dd_add, fd_Menu_dd_add, g_Menu_dd_add⟩ := c.meth 20 rfl
  obtain ⟨f_Menu_dd_getitem, fd_Menu_dd_getitem, g_Menu_dd_getitem⟩ := c.meth 21 rfl
  obtain ⟨f_Menu_dd_contains, fd_Menu_dd_contains, g_Menu_dd_contains⟩ := c.meth 22 rfl
  obtain ⟨f_Menu_dd_eq, fd_Menu_dd_eq, g_Menu_dd_eq⟩ := c.meth 23 rfl
  obtain ⟨f_Menu_books, fd_Menu_books, g_Menu_books⟩ := c.meth 24 rfl
  obtain ⟨f_lw_numbers, fd_lw_numbers, g_lw_numbers⟩ := c.glo X G 25 rfl
  obtain ⟨f_lw_pool, fd_lw_pool, g_lw_pool⟩ := c.glo X G 26 rfl
  obtain ⟨f_lw_draw, fd_lw_draw, g_lw_draw⟩ := c.glo X G 27 rfl
  obtain ⟨f_lw_after, fd_lw_after, g_lw_after⟩ := c.glo X G 28 rfl
  obtain ⟨f_lw_plan, fd_lw_plan, g_lw_plan⟩ := c.glo X G 29 rfl
  obtain ⟨f_lw_made_after, fd_lw_made_after, g_lw_made_after⟩ := c.glo X G 30 rfl
  obtain ⟨f_lw_made_book, fd_lw_made_book, g_lw_made_book⟩ := c.glo X G 31 rfl
  obtain ⟨f_lw_cell, fd_lw_cell, g_lw_cell⟩ := c.glo X G 32 rfl
  obtain ⟨f_lw_lowest, fd_lw_lowest, g_lw_lowest⟩ := c.glo X G 33 rfl
  obtain ⟨f_lw_plans, fd_lw_plans, g_lw_plans⟩ := c.glo X G 34 rfl
  obtain ⟨f_lw_key, fd_lw_key, g_lw_key⟩ := c.glo X G 35 rfl
  obtain ⟨f_lw_unlike, fd_lw_unlike, g_lw_unlike⟩ := c.glo X G 36 rfl
  obtain ⟨f_lw_menu, fd_lw_menu, g_lw_menu⟩ := c.glo X G 37 rfl
  obtain ⟨f_lw_refused, fd_lw_refused, g_lw_refused⟩ := c.glo X G 38 rfl
  obtain ⟨f_lw_direct, fd_lw_direct, g_lw_direct⟩ := c.glo X G 39 rfl
  obtain ⟨f_lw_law, fd_lw_law, g_lw_law⟩ := c.glo X G 40 rfl
  have e := hfa.symm.trans g_lw_law.m
  cases e
  refine ⟨fd_lw_law, fun s v => ?_, fun base hK hG hB => ?_⟩
  · obtain ⟨⟨oc, od, kV, doc, pm, an, cdv, ct, osl, rfl, lk, hcd⟩, kp⟩ := g_lw_law.F
    exact .of_eq rfl
  let Z : Cz := ⟨P, w, K, mg, base⟩

  obtain ⟨ce1, ce⟩ := ba c.more
  obtain ⟨ce2, ce⟩ := ba ce
  obtain ⟨ce3, ce⟩ := ba ce
  obtain ⟨cn, ce⟩ := ba ce
  obtain ⟨cx1, ce⟩ := ba ce
  obtain ⟨cx2, ce⟩ := ba ce
  obtain ⟨cm, cfr⟩ := ba ce
  obtain ⟨cm1, cm⟩ := ba cm
  obtain ⟨cm2, cm⟩ := ba cm
  obtain ⟨cm3, cm⟩ := ba cm
  obtain ⟨cm4, cm⟩ := ba cm
  obtain ⟨cm5, cm6⟩ := ba cm
  have na := numB_ok cn
  obtain ⟨T, D, M⟩ := shB_ok (P := P) (w := w) (base := base) X G ce1
  obtain ⟨B, KB, J, MB, ckw⟩ := bkB_ok (P := P) (w := w) (base := base) X G ce2
  obtain ⟨MT, MM0⟩ := mnB_ok (P := P) (w := w) (base := base) X G ce3
  obtain ⟨c_is_integer, c_Share, c_Share1⟩ := mk_cals (Z := Z) X G T M ⟨_, _, g_is_integer⟩ ⟨_, _, g_common⟩ ⟨_, F_3⟩
  have tx := excB_ok X G cx1 g_BadMenu_dd_init rfl rfl rfl
  have c_num := g_share_of_number.cal (Z := Z) (ok_share_of_number g_share_of_number.F T c_is_integer c_Share1) (g_share_of_number.F.binds fun _ _ _ _ _ _ us hl => match us, hl with | [_], _ => rfl)
  have c_isnum := g_is_number.cal (Z := Z) (ok_is_number g_is_number.F T c_is_integer) (g_is_number.F.binds fun _ _ _ _ _ _ us hl => match us, hl with | [_], _ => rfl)
  have c_add := g_Share_dd_add.calS (Z := Z) (ok_add g_Share_dd_add.F T c_num c_Share) (g_Share_dd_add.F.binds fun _ _ _ _ _ _ us hl => match us, hl with | [_, _], _ => rfl)
  have c_minus := g_Share_minus.calM (Z := Z) T.cl (ok_minus g_Share_minus.F T c_num) (g_Share_minus.F.binds fun _ _ _ _ _ _ us hl => match us, hl with | [_, _], _ => rfl)
  have c_gt := g_Share_dd_gt.calS (Z := Z) (ok_gt g_Share_dd_gt.F c_minus) (g_Share_dd_gt.F.binds fun _ _ _ _ _ _ us hl => match us, hl with | [_, _], _ => rfl)
  have c_ge := g_Share_dd_ge.calS (Z := Z) (ok_ge g_Share_dd_ge.F c_minus) (g_Share_dd_ge.F.binds fun _ _ _ _ _ _ us hl => match us, hl with | [_, _], _ => rfl)
  have c_eq := g_Share_dd_eq.calS (Z := Z) (ok_eq g_Share_dd_eq.F c_minus c_isnum) (g_Share_dd_eq.F.binds fun _ _ _ _ _ _ us hl => match us, hl with | [_, _], _ => rfl)
  have MM : ShM Z (ga K "Share") := ⟨c_gt, c_ge, c_eq, c_add, na, c_Share, c_Share1, c_isnum, c_is_integer⟩
  have c_above := g_is_above.cal (Z := Z) (ok_is_above g_is_above.F T MM) (g_is_above.F.binds fun _ _ _ _ _ _ us hl => match us, hl with | [_], _ => rfl)
  have c_after := g_is_after.cal (Z := Z) (ok_is_after g_is_after.F T B MM c_above) (g_is_after.F.binds fun _ _ _ _ _ _ us hl => match us, hl with | [_], _ => rfl)
  have c_setting := g_is_setting.cal (Z := Z) (ok_is_setting g_is_setting.F T B MM c_above c_after) (g_is_setting.F.binds fun _ _ _ _ _ _ us hl => match us, hl with | [_, _], _ => rfl)
  have c_kept := g_as_kept.cal (Z := Z) (ok_as_kept g_as_kept.F T MM) (g_as_kept.F.binds fun _ _ _ _ _ _ us hl => match us, hl with | [_, _], _ => rfl)
  have F4 := FunD.withKw (kws := bkKws) F_4 ckw
  have k4 := ok_Book (Z := Z) (C := ga K "Share") (CB := ga K "Book") F4 B KB c_setting c_kept
  obtain ⟨c_book, c_bookK⟩ := book_cals (Z := Z) F4 MB KB k4
  have c_bkeq := g_Book_dd_eq.calS (Z := Z) (ok_BkEq (C := ga K "Share") g_Book_dd_eq.F KB J MM) (g_Book_dd_eq.F.binds fun _ _ _ _ _ _ us hl => match us, hl with | [_, _], _ => rfl)
  -- menus
  have hma : ma K (ga K "Menu") "__init__" = f_Menu_dd_init := by
    unfold ma
    rw [g_Menu_dd_init.o.fn]
  have kM := ok_Menu (Z := Z) (C := ga K "Share") (CX := ga K "BadMenu") g_Menu_dd_init.F MT KB J c_bkeq tx
  have c_new : CMenu Z (ga K "Share") (ga K "Book") (ga K "Menu") (ga K "BadMenu") := ⟨_, kM, hma ▸ MM0, MT.mg⟩
  have c_new0 : CalCR Z CX0 12 (ga K "Menu") "Menu" (spMenu0 K (ga K "Share") (ga K "Book") (ga K "Menu") (ga K "BadMenu")) := ⟨_, fnR_calm kM fun vs H Q E h => h, hma ▸ MM0, MT.mg⟩
  have c_ck := g_check_menu.cal (Z := Z) (ok_ckMn (C := ga K "Share") (CB := ga K "Book") g_check_menu.F MT tx) (g_check_menu.F.binds fun _ _ _ _ _ _ us hl => match us, hl with | [_], _ => rfl)
  have kadd := ok_mnAdd (Z := Z) g_Menu_dd_add.F MT c_bkeq c_ck c_new
  have c_addX := g_Menu_dd_add.calS (Z := Z) kadd (g_Menu_dd_add.F.binds fun _ _ _ _ _ _ us hl => match us, hl with | [_, _], _ => rfl)
  have kget := ok_mnGet (Z := Z) (C := ga K "Share") (CB := ga K "Book") g_Menu_dd_getitem.F MT c_is_integer tx
  have c_getX := g_Menu_dd_getitem.calI' (Z := Z) kget (g_Menu_dd_getitem.F.binds fun _ _ _ _ _ _ us hl => match us, hl with | [_, _], _ => rfl)
  have c_get := g_Menu_dd_getitem.calI' (Z := Z) (okCalm kget (sp' := spMnGet0 (ga K "Share") (ga K "Book") (ga K "Menu")) fun vs H Q E ⟨m, i, bs, b, e, h1, h2, h3⟩ => ⟨m, _, bs, e, h1, .inl ⟨i, b, rfl, h2, h3⟩⟩) (g_Menu_dd_getitem.F.binds fun _ _ _ _ _ _ us hl => match us, hl with | [_, _], _ => rfl)
  have c_inn := g_Menu_dd_contains.calS (Z := Z) (ok_mnIn (C := ga K "Share") g_Menu_dd_contains.F MT KB J c_bkeq) (g_Menu_dd_contains.F.binds fun _ _ _ _ _ _ us hl => match us, hl with | [_, _], _ => rfl)
  have c_bkeqH : CalSH Z 1 (ga K "Book") "__eq__" ["self", "other"] (spBkSelf (ga K "Share") (ga K "Book")) := ⟨_, _, ok_BkEqH (C := ga K "Share") g_Book_dd_eq.F KB J, g_Book_dd_eq.o, (g_Book_dd_eq.F.binds fun _ _ _ _ _ _ us hl => match us, hl with | [_, _], _ => rfl)⟩
  have c_eqM := g_Menu_dd_eq.calS (Z := Z) (ok_mnEq g_Menu_dd_eq.F MT c_bkeq) (g_Menu_dd_eq.F.binds fun _ _ _ _ _ _ us hl => match us, hl with | [_, _], _ => rfl)
  have c_len := g_Menu_dd_len.calS (Z := Z) (ok_mnLen (C := ga K "Share") (CB := ga K "Book") g_Menu_dd_len.F MT) (g_Menu_dd_len.F.binds fun _ _ _ _ _ _ us hl => match us, hl with | [_], _ => rfl)
  have c_books : ∃ f fd, GFn Z.P Z.w Z.K Z.mg Z.base 1 f fd ["self"] (spMnBooks (ga K "Share") (ga K "Book") (ga K "Menu")) ∧ Meth Z.K (ga K "Menu") "books" f ∧ Binds Z.K fd ["self"] [] := ⟨_, _, ok_mnBooks (Z := Z) g_Menu_books.F MT, ⟨g_Menu_books.o.fn, g_Menu_books.o.isf, g_Menu_books.F.kp⟩, (g_Menu_books.F.binds fun _ _ _ _ _ _ us hl => match us, hl with | [_], _ => rfl)⟩
  -- the law's own
  have c_numbers := g_lw_numbers.cal (Z := Z) (ok_numbers g_lw_numbers.F D) (g_lw_numbers.F.binds fun _ _ _ _ _ _ us hl => match us, hl with | [_, _, _], _ => rfl)
  have c_pool := g_lw_pool.cal (Z := Z) (ok_pool g_lw_pool.F D c_numbers) (g_lw_pool.F.binds fun _ _ _ _ _ _ us hl => match us, hl with | [_, _, _], _ => rfl)
  have c_draw := g_lw_draw.cal (Z := Z) (ok_draw g_lw_draw.F D) (g_lw_draw.F.binds fun _ _ _ _ _ _ us hl => match us, hl with | [_, _], _ => rfl)
  have c_lafter := g_lw_after.cal (Z := Z) (ok_lafter g_lw_after.F c_draw) (g_lw_after.F.binds fun _ _ _ _ _ _ us hl => match us, hl with | [_], _ => rfl)
  have c_lplan := g_lw_plan.cal (Z := Z) (ok_lplan g_lw_plan.F c_draw c_lafter) (g_lw_plan.F.binds fun _ _ _ _ _ _ us hl => match us, hl with | [_, _], _ => rfl)
  have c_mafter := g_lw_made_after.cal (Z := Z) (ok_mafter g_lw_made_after.F MM) (g_lw_made_after.F.binds fun _ _ _ _ _ _ us hl => match us, hl with | [_], _ => rfl)
  have c_mbook := g_lw_made_book.cal (Z := Z) (ok_mbook g_lw_made_book.F MM c_bookK c_mafter) (g_lw_made_book.F.binds fun _ _ _ _ _ _ us hl => match us, hl with | [_], _ => rfl)
  have c_cell := g_lw_cell.cal (Z := Z) (ok_lwCell g_lw_cell.F D) (g_lw_cell.F.binds fun _ _ _ _ _ _ us hl => match us, hl with | [_, _], _ => rfl)
  have c_low := g_lw_lowest.cal (Z := Z) (ok_lowT g_lw_lowest.F (freeB_ok X G cfr (by simp))) (g_lw_lowest.F.binds fun _ _ _ _ _ _ us hl => match us, hl with | [_, _], _ => rfl)
  have c_plans := g_lw_plans.cal (Z := Z) (ok_lwPlans g_lw_plans.F D c_cell c_pool c_lplan) (g_lw_plans.F.binds fun _ _ _ _ _ _ us hl => match us, hl with | [_, _], _ => rfl)
  have c_key := g_lw_key.cal (Z := Z) (ok_lwKey g_lw_key.F c_low) (g_lw_key.F.binds fun _ _ _ _ _ _ us hl => match us, hl with | [_], _ => rfl)
  have c_unlike := g_lw_unlike.cal (Z := Z) (ok_lwUnlike g_lw_unlike.F c_key) (g_lw_unlike.F.binds fun _ _ _ _ _ _ us hl => match us, hl with | [_], _ => rfl)
  have c_menu := g_lw_menu.cal (Z := Z) (okCalm (ok_lwMenu (Z := Z) g_lw_menu.F MT c_new c_addX (rnoB_ok cm2)) (sp' := spLMenu (ga K "Share") (ga K "Book") (ga K "Menu")) fun vs H Q E h => h) (g_lw_menu.F.binds fun _ _ _ _ _ _ us hl => match us, hl with | [_], _ => rfl)
  have c_refu : CalL Z 14 16 "_law_refused" ["_law_make", "_law_value"] (spRefu60 K (ga K "Share") (ga K "Book") (ga K "BadMenu")) := ⟨_, _, ok_refu60 (Z := Z) (j := 13) g_lw_refused.F KB J (freeB_ok X G cfr (by simp)) c_bkeqH tx (of_decide_eq_true cx2), g_lw_refused.m, g_lw_refused.F.kp, (g_lw_refused.F.binds fun _ _ _ _ _ _ us hl => match us, hl with | [_, _], _ => rfl)⟩
  have kl := kitsL_ok cm5
  have kb := kitsL_ok cm6
  have W : L60 Z (ga K "Share") (ga K "Book") (ga K "Menu") (ga K "BadMenu") := ⟨MT.len, c_new0, c_new, c_len, c_get, c_getX, c_eqM, c_inn, c_menu, c_refu, c_bkeq, MT, neB_ok cm1, KB, J, Option.isSome_iff_exists.mp cm4, ⟨kb _ (by simp), kb _ (by simp), kb _ (by simp)⟩⟩
  have mk := Got.mkr (Z := Z) (q := "law.<locals>.<lambda>") t hB (by simp [mkAll]) X G g_lw_law (At.glo X G (c.def_ 40 rfl).1)
  have mkd := Got.mkr (Z := Z) (q := "_law_direct.<locals>.<lambda>") t hB (by simp [mkAll]) X G g_lw_direct (At.glo X G (c.def_ 39 rfl).1)
  have c_direct := g_lw_direct.cal (Z := Z) (ok_direct g_lw_direct.F W mkd) (g_lw_direct.F.binds fun _ _ _ _ _ _ us hl => match us, hl with | [_, _, _], _ => rfl)
  exact FnOk.toG (ok_law (Z := Z) g_lw_law.F ⟨W, freeB_ok X G cfr (by simp), freeB_ok X G cfr (by simp), freeB_ok X G cfr (by simp), freeB_ok X G cfr (by simp), freeB_ok X G cfr (by simp), c_plans, c_unlike, c_mbook, c_cell, c_direct, c_books, neB_ok cm3, kl _ (by simp)⟩ mk)
end Ps
open PySem PySem.W PySem.Calls PyProof.Rows
theorem PySem.Challenge.cw_planswitches_k60_menu_keeps_its_books_holds : PySem.Challenge.rw_planswitches_k60_menu_keeps_its_books.Holds := by
  w_on; o_law
  refine HandSHeadRun.head_any (r := OpenLaw.row PySem.Challenge.rw_planswitches_k60_menu_keeps_its_books) (q := view (OpenLaw.row PySem.Challenge.rw_planswitches_k60_menu_keeps_its_books).prog [59]) (H := Ps.hk) (ob := Ps.ob) (M := 30000) (loose := Ps.loose) (d := HandSHeadRun.topDef (OpenLaw.row PySem.Challenge.rw_planswitches_k60_menu_keeps_its_books).prog 59) (kwd := []) Ps.ob_eq
    (by kernel_rfl) (fun s => by kernel_rfl) Ps.run (by kernel_rfl) (by kernel_rfl) (by kernel_rfl) (by rfl) (by first | assumption | decide +kernel) (by decide +kernel) ⟨rfl, rfl, rfl, rfl, rfl, by decide +kernel⟩ ?hw ?hc
  case hw => w_witness2
  case hc =>
    refine Ps.walk_GT (l := PySem.Challenge.rw_planswitches_k60_menu_keeps_its_books) (n := 63) (k := 18) (x := "_law_script") (CX := L2.CX0) rfl (by decide) (by kernel_rfl) ⟨rfl, by decide, by decide⟩ ?F (fun _ _ _ _ z => z)
    intro w mg fa h Y G hmg0
    obtain ⟨K, KX, c, t⟩ := Y
    replace c := Ps.parts_says c
    have hmg : mg ("law" : PySem.Str) = some (.ref fa) := by
      have e : (HandSHeadRun.topDef (OpenLaw.row PySem.Challenge.rw_planswitches_k60_menu_keeps_its_books).prog 59).name = ("law" : PySem.Str) := by kernel_rfl
      rw [← e]
      exact hmg0
    obtain ⟨fd, hb, hF⟩ := Ps.facts (P := (PySem.Challenge.rw_planswitches_k60_menu_keeps_its_books).prog) (w := w) KX G hmg c t
    exact ⟨K, fd, Ps.spLawT K (Ps.tabsT Ps.mkAll K), Ps.tabsOf Ps.mkAll K, KX, t.tab, t.out, t.code, hb, fun H a ns hl hH hS => ⟨a, ns, rfl, hS, hl, Ps.tabs_start hH, fun _ => rfl⟩, hF⟩



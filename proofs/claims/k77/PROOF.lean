import PyProof.Rows.All
import Wide.All
import OpenK.AllK
import Wide.FinOn
import HandS.ForMost
import HandS.IsInst
import HandS.Property
import HandS.Wide
import HandS.EndBits
import HandS.OwnEq
import HandS.Defaults
import HandS.More
import KE.KStateDown
import HandS.Head0
import HandS.Head1
import HandS.Head2
import HandS.HeadEnd
import HandS.HeadHook1
import HandS.HeadHook2
import HandS.Star
import HandS.ClsMeth
import HandS.Codes
import HandS.Exc
import HandS.TryOnly
import HandS.TryMany
import HandS.ExcOwn
import HandS.ExcSuper
import HandS.ExcField
import HandS.WordsExc
import HandS.ExcCtx
import HandS.HotCalls
import HandS.CallSlots
import KE.KEqDict
import HandS.Sort
import PyProof.DictUpdate
import PyProof.DictDisplay
import PyProof.DictTable
import HandS.MakeKw
import HandS.MakeKwOnly
import HandS.DictComp
import HandS.Style
import HandS.Walk
import HandS.MethStar
import PyProof.NeKinds
import PySem.Challenge.RW_planswitches_k77_changes_of_a_book
set_option Elab.async false
set_option linter.all false
set_option maxRecDepth 100000
/-! places and scopes of the defs of planswitches_k77_changes_of_a_book -/
namespace Ps
open PySem L2
def topS (i : Nat) : Stmt := PySem.Challenge.pw_planswitches_k77_changes_of_a_book.main.body.getD i (.Pass ⟨0, 0, 0, 0⟩)
abbrev s_BadArgument_dd_init : Stmt := inClass (topS 3) 0
theorem sc_BadArgument_dd_init : FnScope ["self", "value"] ["self", "value"] (defScope s_BadArgument_dd_init) := ⟨rfl, rfl, rfl, by decide +kernel, rfl, by decide +kernel, by decide +kernel⟩
abbrev s_BadPrice_dd_init : Stmt := inClass (topS 4) 0
theorem sc_BadPrice_dd_init : FnScope ["self", "value"] ["self", "value"] (defScope s_BadPrice_dd_init) := ⟨rfl, rfl, rfl, by decide +kernel, rfl, by decide +kernel, by decide +kernel⟩
abbrev s_BadBook_dd_init : Stmt := inClass (topS 5) 0
theorem sc_BadBook_dd_init : FnScope ["self", "field"] ["self", "field"] (defScope s_BadBook_dd_init) := ⟨rfl, rfl, rfl, by decide +kernel, rfl, by decide +kernel, by decide +kernel⟩
abbrev s_BadState_dd_init : Stmt := inClass (topS 6) 0
theorem sc_BadState_dd_init : FnScope ["self", "value"] ["self", "value"] (defScope s_BadState_dd_init) := ⟨rfl, rfl, rfl, by decide +kernel, rfl, by decide +kernel, by decide +kernel⟩
abbrev s_BadChange_dd_init : Stmt := inClass (topS 7) 0
theorem sc_BadChange_dd_init : FnScope ["self", "value"] ["self", "value"] (defScope s_BadChange_dd_init) := ⟨rfl, rfl, rfl, by decide +kernel, rfl, by decide +kernel, by decide +kernel⟩
abbrev s_BadShare_dd_init : Stmt := inClass (topS 8) 0
theorem sc_BadShare_dd_init : FnScope ["self", "value"] ["self", "value"] (defScope s_BadShare_dd_init) := ⟨rfl, rfl, rfl, by decide +kernel, rfl, by decide +kernel, by decide +kernel⟩
abbrev s_DividedByNothing_dd_init : Stmt := inClass (topS 9) 0
theorem sc_DividedByNothing_dd_init : FnScope ["self", "value"] ["self", "value"] (defScope s_DividedByNothing_dd_init) := ⟨rfl, rfl, rfl, by decide +kernel, rfl, by decide +kernel, by decide +kernel⟩
abbrev s_BadKind_dd_init : Stmt := inClass (topS 10) 0
theorem sc_BadKind_dd_init : FnScope ["self", "word"] ["self", "word"] (defScope s_BadKind_dd_init) := ⟨rfl, rfl, rfl, by decide +kernel, rfl, by decide +kernel, by decide +kernel⟩
abbrev s_is_integer : Stmt := topS 12
theorem sc_is_integer : FnScope ["value"] ["value"] (defScope s_is_integer) := ⟨rfl, rfl, rfl, by decide +kernel, rfl, by decide +kernel, by decide +kernel⟩
abbrev s_common : Stmt := topS 13
theorem sc_common : FnScope ["one", "other"] ["one", "other"] (defScope s_common) := ⟨rfl, rfl, rfl, by decide +kernel, rfl, by decide +kernel, by decide +kernel⟩
abbrev s_share_of_number : Stmt := topS 14
theorem sc_share_of_number : FnScope ["value"] ["value"] (defScope s_share_of_number) := ⟨rfl, rfl, rfl, by decide +kernel, rfl, by decide +kernel, by decide +kernel⟩
abbrev s_is_number : Stmt := topS 15
theorem sc_is_number : FnScope ["value"] ["value"] (defScope s_is_number) := ⟨rfl, rfl, rfl, by decide +kernel, rfl, by decide +kernel, by decide +kernel⟩
abbrev s_Share_dd_init : Stmt := inClass (topS 16) 0
theorem sc_Share_dd_init : FnScope ["self", "top", "under", "divisor"] ["self", "top", "under"] (defScope s_Share_dd_init) := ⟨rfl, rfl, rfl, by decide +kernel, rfl, by decide +kernel, by decide +kernel⟩
abbrev s_Share_top : Stmt := inClass (topS 16) 1
theorem sc_Share_top : FnScope ["self"] ["self"] (defScope s_Share_top) := ⟨rfl, rfl, rfl, by decide +kernel, rfl, by decide +kernel, by decide +kernel⟩
abbrev s_Share_under : Stmt := inClass (topS 16) 2
theorem sc_Share_under : FnScope ["self"] ["self"] (defScope s_Share_under) := ⟨rfl, rfl, rfl, by decide +kernel, rfl, by decide +kernel, by decide +kernel⟩
abbrev s_Share_dd_add : Stmt := inClass (topS 16) 3
theorem sc_Share_dd_add : FnScope ["self", "other"] ["self", "other"] (defScope s_Share_dd_add) := ⟨rfl, rfl, rfl, by decide +kernel, rfl, by decide +kernel, by decide +kernel⟩
abbrev s_Share_dd_radd : Stmt := inClass (topS 16) 4
theorem sc_Share_dd_radd : FnScope ["self", "other"] ["self", "other"] (defScope s_Share_dd_radd) := ⟨rfl, rfl, rfl, by decide +kernel, rfl, by decide +kernel, by decide +kernel⟩
abbrev s_Share_dd_sub : Stmt := inClass (topS 16) 5
theorem sc_Share_dd_sub : FnScope ["self", "other"] ["self", "other"] (defScope s_Share_dd_sub) := ⟨rfl, rfl, rfl, by decide +kernel, rfl, by decide +kernel, by decide +kernel⟩
abbrev s_Share_dd_rsub : Stmt := inClass (topS 16) 6
theorem sc_Share_dd_rsub : FnScope ["self", "other"] ["self", "other"] (defScope s_Share_dd_rsub) := ⟨rfl, rfl, rfl, by decide +kernel, rfl, by decide +kernel, by decide +kernel⟩
abbrev s_Share_dd_mul : Stmt := inClass (topS 16) 7
theorem sc_Share_dd_mul : FnScope ["self", "other"] ["self", "other"] (defScope s_Share_dd_mul) := ⟨rfl, rfl, rfl, by decide +kernel, rfl, by decide +kernel, by decide +kernel⟩
abbrev s_Share_dd_rmul : Stmt := inClass (topS 16) 8
theorem sc_Share_dd_rmul : FnScope ["self", "other"] ["self", "other"] (defScope s_Share_dd_rmul) := ⟨rfl, rfl, rfl, by decide +kernel, rfl, by decide +kernel, by decide +kernel⟩
abbrev s_Share_by : Stmt := inClass (topS 16) 9
theorem sc_Share_by : FnScope ["self", "other"] ["self", "other"] (defScope s_Share_by) := ⟨rfl, rfl, rfl, by decide +kernel, rfl, by decide +kernel, by decide +kernel⟩
abbrev s_Share_dd_neg : Stmt := inClass (topS 16) 10
theorem sc_Share_dd_neg : FnScope ["self"] ["self"] (defScope s_Share_dd_neg) := ⟨rfl, rfl, rfl, by decide +kernel, rfl, by decide +kernel, by decide +kernel⟩
abbrev s_Share_dd_abs : Stmt := inClass (topS 16) 11
theorem sc_Share_dd_abs : FnScope ["self"] ["self"] (defScope s_Share_dd_abs) := ⟨rfl, rfl, rfl, by decide +kernel, rfl, by decide +kernel, by decide +kernel⟩
abbrev s_Share_dd_bool : Stmt := inClass (topS 16) 12
theorem sc_Share_dd_bool : FnScope ["self"] ["self"] (defScope s_Share_dd_bool) := ⟨rfl, rfl, rfl, by decide +kernel, rfl, by decide +kernel, by decide +kernel⟩
abbrev s_Share_minus : Stmt := inClass (topS 16) 13
theorem sc_Share_minus : FnScope ["self", "other"] ["self", "other"] (defScope s_Share_minus) := ⟨rfl, rfl, rfl, by decide +kernel, rfl, by decide +kernel, by decide +kernel⟩
abbrev s_Share_dd_lt : Stmt := inClass (topS 16) 14
theorem sc_Share_dd_lt : FnScope ["self", "other"] ["self", "other"] (defScope s_Share_dd_lt) := ⟨rfl, rfl, rfl, by decide +kernel, rfl, by decide +kernel, by decide +kernel⟩
abbrev s_Share_dd_le : Stmt := inClass (topS 16) 15
theorem sc_Share_dd_le : FnScope ["self", "other"] ["self", "other"] (defScope s_Share_dd_le) := ⟨rfl, rfl, rfl, by decide +kernel, rfl, by decide +kernel, by decide +kernel⟩
abbrev s_Share_dd_gt : Stmt := inClass (topS 16) 16
theorem sc_Share_dd_gt : FnScope ["self", "other"] ["self", "other"] (defScope s_Share_dd_gt) := ⟨rfl, rfl, rfl, by decide +kernel, rfl, by decide +kernel, by decide +kernel⟩
abbrev s_Share_dd_ge : Stmt := inClass (topS 16) 17
theorem sc_Share_dd_ge : FnScope ["self", "other"] ["self", "other"] (defScope s_Share_dd_ge) := ⟨rfl, rfl, rfl, by decide +kernel, rfl, by decide +kernel, by decide +kernel⟩
abbrev s_Share_dd_eq : Stmt := inClass (topS 16) 18
theorem sc_Share_dd_eq : FnScope ["self", "other"] ["self", "other"] (defScope s_Share_dd_eq) := ⟨rfl, rfl, rfl, by decide +kernel, rfl, by decide +kernel, by decide +kernel⟩
abbrev s_Share_dd_str : Stmt := inClass (topS 16) 19
theorem sc_Share_dd_str : FnScope ["self"] ["self"] (defScope s_Share_dd_str) := ⟨rfl, rfl, rfl, by decide +kernel, rfl, by decide +kernel, by decide +kernel⟩
abbrev s_Share_dd_repr : Stmt := inClass (topS 16) 20
theorem sc_Share_dd_repr : FnScope ["self"] ["self"] (defScope s_Share_dd_repr) := ⟨rfl, rfl, rfl, by decide +kernel, rfl, by decide +kernel, by decide +kernel⟩
abbrev s_is_word : Stmt := topS 21
theorem sc_is_word : FnScope ["value", "sign"] ["value"] (defScope s_is_word) := ⟨rfl, rfl, rfl, by decide +kernel, rfl, by decide +kernel, by decide +kernel⟩
abbrev s_is_pair : Stmt := topS 22
theorem sc_is_pair : FnScope ["value", "number"] ["value"] (defScope s_is_pair) := ⟨rfl, rfl, rfl, by decide +kernel, rfl, by decide +kernel, by decide +kernel⟩
abbrev s_shares_of : Stmt := topS 23
theorem sc_shares_of : FnScope ["pair"] ["pair"] (defScope s_shares_of) := ⟨rfl, rfl, rfl, by decide +kernel, rfl, by decide +kernel, by decide +kernel⟩
abbrev s_are_kinds : Stmt := topS 24
theorem sc_are_kinds : FnScope ["value", "word"] ["value"] (defScope s_are_kinds) := ⟨rfl, rfl, rfl, by decide +kernel, rfl, by decide +kernel, by decide +kernel⟩
abbrev s_as_make : Stmt := topS 25
theorem sc_as_make : FnScope ["value"] ["value"] (defScope s_as_make) := ⟨rfl, rfl, rfl, by decide +kernel, rfl, by decide +kernel, by decide +kernel⟩
abbrev s_Prices_dd_init : Stmt := inClass (topS 26) 0
theorem sc_Prices_dd_init : FnScope ["self", "make", "general_make", "kinds", "word"] ["self", "make", "general_make", "kinds"] (defScope s_Prices_dd_init) := ⟨rfl, rfl, rfl, by decide +kernel, rfl, by decide +kernel, by decide +kernel⟩
abbrev s_Prices_make : Stmt := inClass (topS 26) 1
theorem sc_Prices_make : FnScope ["self"] ["self"] (defScope s_Prices_make) := ⟨rfl, rfl, rfl, by decide +kernel, rfl, by decide +kernel, by decide +kernel⟩
abbrev s_Prices_make_set : Stmt := inClass (topS 26) 2
theorem sc_Prices_make_set : FnScope ["self", "value"] ["self", "value"] (defScope s_Prices_make_set) := ⟨rfl, rfl, rfl, by decide +kernel, rfl, by decide +kernel, by decide +kernel⟩
abbrev s_Prices_general_make : Stmt := inClass (topS 26) 3
theorem sc_Prices_general_make : FnScope ["self"] ["self"] (defScope s_Prices_general_make) := ⟨rfl, rfl, rfl, by decide +kernel, rfl, by decide +kernel, by decide +kernel⟩
abbrev s_Prices_general_make_set : Stmt := inClass (topS 26) 4
theorem sc_Prices_general_make_set : FnScope ["self", "value"] ["self", "value"] (defScope s_Prices_general_make_set) := ⟨rfl, rfl, rfl, by decide +kernel, rfl, by decide +kernel, by decide +kernel⟩
abbrev s_Prices_dd_getitem : Stmt := inClass (topS 26) 6
theorem sc_Prices_dd_getitem : FnScope ["self", "word"] ["self", "word"] (defScope s_Prices_dd_getitem) := ⟨rfl, rfl, rfl, by decide +kernel, rfl, by decide +kernel, by decide +kernel⟩
abbrev s_Prices_dd_setitem : Stmt := inClass (topS 26) 7
theorem sc_Prices_dd_setitem : FnScope ["self", "word", "pair", "pairs", "other"] ["self", "word", "pair"] (defScope s_Prices_dd_setitem) := ⟨rfl, rfl, rfl, by decide +kernel, rfl, by decide +kernel, by decide +kernel⟩
abbrev s_Prices_dd_contains : Stmt := inClass (topS 26) 8
theorem sc_Prices_dd_contains : FnScope ["self", "word"] ["self", "word"] (defScope s_Prices_dd_contains) := ⟨rfl, rfl, rfl, by decide +kernel, rfl, by decide +kernel, by decide +kernel⟩
abbrev s_Prices_dd_iter : Stmt := inClass (topS 26) 9
theorem sc_Prices_dd_iter : FnScope ["self"] ["self"] (defScope s_Prices_dd_iter) := ⟨rfl, rfl, rfl, by decide +kernel, rfl, by decide +kernel, by decide +kernel⟩
abbrev s_Prices_dd_len : Stmt := inClass (topS 26) 10
theorem sc_Prices_dd_len : FnScope ["self"] ["self"] (defScope s_Prices_dd_len) := ⟨rfl, rfl, rfl, by decide +kernel, rfl, by decide +kernel, by decide +kernel⟩
abbrev s_Prices_words : Stmt := inClass (topS 26) 11
theorem sc_Prices_words : FnScope ["self"] ["self"] (defScope s_Prices_words) := ⟨rfl, rfl, rfl, by decide +kernel, rfl, by decide +kernel, by decide +kernel⟩
abbrev s_Prices_own : Stmt := inClass (topS 26) 12
theorem sc_Prices_own : FnScope ["self", "word"] ["self", "word"] (defScope s_Prices_own) := ⟨rfl, rfl, rfl, by decide +kernel, rfl, by decide +kernel, by decide +kernel⟩
abbrev s_Prices_general : Stmt := inClass (topS 26) 13
theorem sc_Prices_general : FnScope ["self", "word"] ["self", "word"] (defScope s_Prices_general) := ⟨rfl, rfl, rfl, by decide +kernel, rfl, by decide +kernel, by decide +kernel⟩
abbrev s_Prices_dd_eq : Stmt := inClass (topS 26) 17
theorem sc_Prices_dd_eq : FnScope ["self", "other"] ["self", "other"] (defScope s_Prices_dd_eq) := ⟨rfl, rfl, rfl, by decide +kernel, rfl, by decide +kernel, by decide +kernel⟩
abbrev s_check_prices : Stmt := topS 27
theorem sc_check_prices : FnScope ["prices"] ["prices"] (defScope s_check_prices) := ⟨rfl, rfl, rfl, by decide +kernel, rfl, by decide +kernel, by decide +kernel⟩
abbrev s_is_above : Stmt := topS 33
theorem sc_is_above : FnScope ["value"] ["value"] (defScope s_is_above) := ⟨rfl, rfl, rfl, by decide +kernel, rfl, by decide +kernel, by decide +kernel⟩
abbrev s_is_after : Stmt := topS 34
theorem sc_is_after : FnScope ["value"] ["value"] (defScope s_is_after) := ⟨rfl, rfl, rfl, by decide +kernel, rfl, by decide +kernel, by decide +kernel⟩
abbrev s_is_setting : Stmt := topS 35
theorem sc_is_setting : FnScope ["field", "value"] ["field", "value"] (defScope s_is_setting) := ⟨rfl, rfl, rfl, by decide +kernel, rfl, by decide +kernel, by decide +kernel⟩
abbrev s_as_kept : Stmt := topS 36
theorem sc_as_kept : FnScope ["field", "value"] ["field", "value"] (defScope s_as_kept) := ⟨rfl, rfl, rfl, by decide +kernel, rfl, by decide +kernel, by decide +kernel⟩
abbrev s_ascending : Stmt := topS 37
theorem sc_ascending : FnScope ["words"] ["words"] (defScope s_ascending) := ⟨rfl, rfl, rfl, by decide +kernel, rfl, by decide +kernel, by decide +kernel⟩
abbrev s_Book_dd_init : Stmt := inClass (topS 38) 0
theorem sc_Book_dd_init : FnScope ["self", "tries", "told", "factor", "equal", "sliding", "after", "keep", "given", "field"] ["self", "tries", "told", "factor", "equal", "sliding", "after", "keep"] (defScope s_Book_dd_init) := ⟨rfl, rfl, rfl, by decide +kernel, rfl, by decide +kernel, by decide +kernel⟩
abbrev s_Book_tries : Stmt := inClass (topS 38) 1
theorem sc_Book_tries : FnScope ["self"] ["self"] (defScope s_Book_tries) := ⟨rfl, rfl, rfl, by decide +kernel, rfl, by decide +kernel, by decide +kernel⟩
abbrev s_Book_told : Stmt := inClass (topS 38) 2
theorem sc_Book_told : FnScope ["self"] ["self"] (defScope s_Book_told) := ⟨rfl, rfl, rfl, by decide +kernel, rfl, by decide +kernel, by decide +kernel⟩
abbrev s_Book_factor : Stmt := inClass (topS 38) 3
theorem sc_Book_factor : FnScope ["self"] ["self"] (defScope s_Book_factor) := ⟨rfl, rfl, rfl, by decide +kernel, rfl, by decide +kernel, by decide +kernel⟩
abbrev s_Book_equal : Stmt := inClass (topS 38) 4
theorem sc_Book_equal : FnScope ["self"] ["self"] (defScope s_Book_equal) := ⟨rfl, rfl, rfl, by decide +kernel, rfl, by decide +kernel, by decide +kernel⟩
abbrev s_Book_sliding : Stmt := inClass (topS 38) 5
theorem sc_Book_sliding : FnScope ["self"] ["self"] (defScope s_Book_sliding) := ⟨rfl, rfl, rfl, by decide +kernel, rfl, by decide +kernel, by decide +kernel⟩
abbrev s_Book_after : Stmt := inClass (topS 38) 6
theorem sc_Book_after : FnScope ["self"] ["self"] (defScope s_Book_after) := ⟨rfl, rfl, rfl, by decide +kernel, rfl, by decide +kernel, by decide +kernel⟩
abbrev s_Book_keep : Stmt := inClass (topS 38) 7
theorem sc_Book_keep : FnScope ["self"] ["self"] (defScope s_Book_keep) := ⟨rfl, rfl, rfl, by decide +kernel, rfl, by decide +kernel, by decide +kernel⟩
abbrev s_Book_changed : Stmt := inClass (topS 38) 8
theorem sc_Book_changed : FnScope ["self", "settings", "field", "now"] ["self", "settings"] (defScope s_Book_changed) := ⟨rfl, rfl, rfl, by decide +kernel, rfl, by decide +kernel, by decide +kernel⟩
abbrev s_Book_dd_eq : Stmt := inClass (topS 38) 9
theorem sc_Book_dd_eq : FnScope ["self", "other"] ["self", "other"] (defScope s_Book_dd_eq) := ⟨rfl, rfl, rfl, by decide +kernel, rfl, by decide +kernel, by decide +kernel⟩
abbrev s_Book_looks : Stmt := inClass (topS 38) 13
theorem sc_Book_looks : FnScope ["self"] ["self"] (defScope s_Book_looks) := ⟨rfl, rfl, rfl, by decide +kernel, rfl, by decide +kernel, by decide +kernel⟩
abbrev s_Book_is_memory : Stmt := inClass (topS 38) 18
theorem sc_Book_is_memory : FnScope ["self", "prices", "memory", "word"] ["self", "prices", "memory"] (defScope s_Book_is_memory) := ⟨rfl, rfl, rfl, by decide +kernel, rfl, by decide +kernel, by decide +kernel⟩
abbrev s_Book_is_state : Stmt := inClass (topS 38) 19
theorem sc_Book_is_state : FnScope ["self", "prices", "value", "mode", "kept", "memory"] ["self", "prices", "value"] (defScope s_Book_is_state) := ⟨rfl, rfl, rfl, by decide +kernel, rfl, by decide +kernel, by decide +kernel⟩
abbrev s_Book_check_state : Stmt := inClass (topS 38) 20
theorem sc_Book_check_state : FnScope ["self", "prices", "state"] ["self", "prices", "state"] (defScope s_Book_check_state) := ⟨rfl, rfl, rfl, by decide +kernel, rfl, by decide +kernel, by decide +kernel⟩
abbrev s_Book_plan_of : Stmt := inClass (topS 38) 21
theorem sc_Book_plan_of : FnScope ["self", "state"] ["self", "state"] (defScope s_Book_plan_of) := ⟨rfl, rfl, rfl, by decide +kernel, rfl, by decide +kernel, by decide +kernel⟩
abbrev s_Book_plan : Stmt := inClass (topS 38) 22
theorem sc_Book_plan : FnScope ["self", "prices", "state"] ["self", "prices", "state"] (defScope s_Book_plan) := ⟨rfl, rfl, rfl, by decide +kernel, rfl, by decide +kernel, by decide +kernel⟩
abbrev s_check_book : Stmt := topS 39
theorem sc_check_book : FnScope ["book"] ["book"] (defScope s_check_book) := ⟨rfl, rfl, rfl, by decide +kernel, rfl, by decide +kernel, by decide +kernel⟩
abbrev s_is_change : Stmt := topS 42
theorem sc_is_change : FnScope ["value"] ["value"] (defScope s_is_change) := ⟨rfl, rfl, rfl, by decide +kernel, rfl, by decide +kernel, by decide +kernel⟩
abbrev s_changed_by : Stmt := topS 43
theorem sc_changed_by : FnScope ["book", "changes", "settings", "change"] ["book", "changes"] (defScope s_changed_by) := ⟨rfl, rfl, rfl, by decide +kernel, rfl, by decide +kernel, by decide +kernel⟩
abbrev s_lw_numbers : Stmt := topS 45
theorem sc_lw_numbers : FnScope ["_law_cell_here", "_law_salt", "_law_sizes", "_law_whole", "_law_left", "_law_result", "_law_k", "_law_one"] ["_law_cell_here", "_law_salt", "_law_sizes"] (defScope s_lw_numbers) := ⟨rfl, rfl, rfl, by decide +kernel, rfl, by decide +kernel, by decide +kernel⟩
abbrev s_lw_pool : Stmt := topS 46
theorem sc_lw_pool : FnScope ["_law_cell_here", "_law_salt", "_law_many"] ["_law_cell_here", "_law_salt", "_law_many"] (defScope s_lw_pool) := ⟨rfl, rfl, rfl, by decide +kernel, rfl, by decide +kernel, by decide +kernel⟩
abbrev s_lw_draw : Stmt := topS 47
theorem sc_lw_draw : FnScope ["_law_pool_here", "_law_many", "_law_at"] ["_law_pool_here", "_law_many"] (defScope s_lw_draw) := ⟨rfl, rfl, rfl, by decide +kernel, rfl, by decide +kernel, by decide +kernel⟩
abbrev s_lw_opened : Stmt := topS 48
theorem sc_lw_opened : FnScope ["_law_script", "_law_k", "_law_many", "_law_cell_here"] ["_law_script", "_law_k", "_law_many"] (defScope s_lw_opened) := ⟨rfl, rfl, rfl, by decide +kernel, rfl, by decide +kernel, by decide +kernel⟩
abbrev s_lw_after : Stmt := topS 49
theorem sc_lw_after : FnScope ["_law_pool_here", "_law_way"] ["_law_pool_here"] (defScope s_lw_after) := ⟨rfl, rfl, rfl, by decide +kernel, rfl, by decide +kernel, by decide +kernel⟩
abbrev s_lw_plan : Stmt := topS 50
theorem sc_lw_plan : FnScope ["_law_pool_here", "_law_most", "_law_trial", "_law_heard", "_law_plan_here"] ["_law_pool_here", "_law_most"] (defScope s_lw_plan) := ⟨rfl, rfl, rfl, by decide +kernel, rfl, by decide +kernel, by decide +kernel⟩
abbrev s_lw_made_after : Stmt := topS 51
theorem sc_lw_made_after : FnScope ["_law_ending"] ["_law_ending"] (defScope s_lw_made_after) := ⟨rfl, rfl, rfl, by decide +kernel, rfl, by decide +kernel, by decide +kernel⟩
abbrev s_lw_made_book : Stmt := topS 52
theorem sc_lw_made_book : FnScope ["_law_plan_here", "_law_ratio", "_law_ending"] ["_law_plan_here"] (defScope s_lw_made_book) := ⟨rfl, rfl, rfl, by decide +kernel, rfl, by decide +kernel, by decide +kernel⟩
abbrev s_lw_cell : Stmt := topS 53
theorem sc_lw_cell : FnScope ["_law_script", "_law_k"] ["_law_script", "_law_k"] (defScope s_lw_cell) := ⟨rfl, rfl, rfl, by decide +kernel, rfl, by decide +kernel, by decide +kernel⟩
abbrev s_lw_change_of : Stmt := topS 54
theorem sc_lw_change_of : FnScope ["_law_pool_here", "_law_field"] ["_law_pool_here"] (defScope s_lw_change_of) := ⟨rfl, rfl, rfl, by decide +kernel, rfl, by decide +kernel, by decide +kernel⟩
abbrev s_lw_made_change : Stmt := topS 55
theorem sc_lw_made_change : FnScope ["_law_change", "_law_field", "_law_value"] ["_law_change"] (defScope s_lw_made_change) := ⟨rfl, rfl, rfl, by decide +kernel, rfl, by decide +kernel, by decide +kernel⟩
abbrev s_lw_with : Stmt := topS 56
theorem sc_lw_with : FnScope ["_law_plan_here", "_law_changes", "_law_found", "_law_field", "_law_value"] ["_law_plan_here", "_law_changes"] (defScope s_lw_with) := ⟨rfl, rfl, rfl, by decide +kernel, rfl, by decide +kernel, by decide +kernel⟩
abbrev s_lw_error : Stmt := topS 57
theorem sc_lw_error : FnScope ["_law_book", "_law_changes", "e"] ["_law_book", "_law_changes"] (defScope s_lw_error) := ⟨rfl, rfl, rfl, by decide +kernel, rfl, by decide +kernel, by decide +kernel⟩
abbrev s_lw_law : Stmt := topS 58
theorem sc_lw_law : FnScope ["_law_script", "_law_plan_here", "_law_pool_here", "_law_changes", "_law_k", "_law_book", "_law_made", "_law_change", "_law_fields", "_law_again", "_law_wrong", "_law_at", "_law_few", "_law_odd"] ["_law_script"] (defScope s_lw_law) := ⟨rfl, rfl, rfl, by decide +kernel, rfl, by decide +kernel, by decide +kernel⟩
end Ps

set_option maxHeartbeats 4000000
/-! Own operators over the hand layer: the operand on the left is an own instance; or an int on the left and an own instance on the right. -/
namespace Ps
open PySem PySem.Spec PyProof.Rows PySem.W L2

section
variable {prog : Program} {w : World} {A : Around} {E : Value → Shared → Prop} {s : Shared} {K : Frag} {x C L f f' : Addr} {h₀ : Heap} {m : Str → Option Value} {ox : Obj} {od : Option Obj}

theorem asInt_inst {M : Model} {Q : Option Int → Shared → Prop} {dx : Addr} (hx : s.heap.get? x = some (instObj C dx)) (h : Q none s) : wpAny M A (asInt? (.ref x)) Q E s := by
  unfold asInt?
  exact wpAny_bind (wpAny_load hx (wpAny_pure h))

theorem dec_add {t : Tok} {i : Int} {dx : Addr} {Q : Value → Shared → Prop} (hx : s.heap.get? x = some (instObj C dx)) (h : Q .notImplemented s) :
    wpAny (model prog w) A (call (.builtin "int.__add__") [.int i t, .ref x]) Q E s := by
  refine GQ.call_here F.slot_int_add (typeIs_int s i t) F.entry_int_add (F.args_int_add_2 _ _) ?_
  obtain ⟨hp, g, d, tk, os⟩ := s
  wp_walk using asInt_inst hx
  exact h
theorem dec_sub {t : Tok} {i : Int} {dx : Addr} {Q : Value → Shared → Prop} (hx : s.heap.get? x = some (instObj C dx)) (h : Q .notImplemented s) :
    wpAny (model prog w) A (call (.builtin "int.__sub__") [.int i t, .ref x]) Q E s := by
  refine GQ.call_here F.slot_int_sub (typeIs_int s i t) F.entry_int_sub (F.args_int_sub_2 _ _) ?_
  obtain ⟨hp, g, d, tk, os⟩ := s
  wp_walk using asInt_inst hx
  exact h
theorem dec_mul {t : Tok} {i : Int} {dx : Addr} {Q : Value → Shared → Prop} (hx : s.heap.get? x = some (instObj C dx)) (h : Q .notImplemented s) :
    wpAny (model prog w) A (call (.builtin "int.__mul__") [.int i t, .ref x]) Q E s := by
  refine GQ.call_here F.slot_int_mul (typeIs_int s i t) F.entry_int_mul (F.args_int_mul_2 _ _) ?_
  obtain ⟨hp, g, d, tk, os⟩ := s
  wp_walk using asInt_inst hx
  exact h
theorem dec_lt {t : Tok} {i : Int} {dx : Addr} {Q : Value → Shared → Prop} (hx : s.heap.get? x = some (instObj C dx)) (h : Q .notImplemented s) :
    wpAny (model prog w) A (call (.builtin "int.__lt__") [.int i t, .ref x]) Q E s := by
  refine GQ.call_here F.slot_int_lt (typeIs_int s i t) F.entry_int_lt (F.args_int_lt_2 _ _) ?_
  obtain ⟨hp, g, d, tk, os⟩ := s
  wp_walk using asInt_inst hx
  exact h
theorem dec_le {t : Tok} {i : Int} {dx : Addr} {Q : Value → Shared → Prop} (hx : s.heap.get? x = some (instObj C dx)) (h : Q .notImplemented s) :
    wpAny (model prog w) A (call (.builtin "int.__le__") [.int i t, .ref x]) Q E s := by
  refine GQ.call_here F.slot_int_le (typeIs_int s i t) F.entry_int_le (F.args_int_le_2 _ _) ?_
  obtain ⟨hp, g, d, tk, os⟩ := s
  wp_walk using asInt_inst hx
  exact h
theorem dec_gt {t : Tok} {i : Int} {dx : Addr} {Q : Value → Shared → Prop} (hx : s.heap.get? x = some (instObj C dx)) (h : Q .notImplemented s) :
    wpAny (model prog w) A (call (.builtin "int.__gt__") [.int i t, .ref x]) Q E s := by
  refine GQ.call_here F.slot_int_gt (typeIs_int s i t) F.entry_int_gt (F.args_int_gt_2 _ _) ?_
  obtain ⟨hp, g, d, tk, os⟩ := s
  wp_walk using asInt_inst hx
  exact h
theorem dec_ge {t : Tok} {i : Int} {dx : Addr} {Q : Value → Shared → Prop} (hx : s.heap.get? x = some (instObj C dx)) (h : Q .notImplemented s) :
    wpAny (model prog w) A (call (.builtin "int.__ge__") [.int i t, .ref x]) Q E s := by
  refine GQ.call_here F.slot_int_ge (typeIs_int s i t) F.entry_int_ge (F.args_int_ge_2 _ _) ?_
  obtain ⟨hp, g, d, tk, os⟩ := s
  wp_walk using asInt_inst hx
  exact h
theorem dec_eq {t : Tok} {i : Int} {dx : Addr} {Q : Value → Shared → Prop} (hx : s.heap.get? x = some (instObj C dx)) (h : Q .notImplemented s) :
    wpAny (model prog w) A (call (.builtin "int.__eq__") [.int i t, .ref x]) Q E s := by
  refine GQ.call_here F.slot_int_eq (typeIs_int s i t) F.entry_int_eq (F.args_int_eq_2 _ _) ?_
  obtain ⟨hp, g, d, tk, os⟩ := s
  wp_walk using asInt_inst hx
  exact h
theorem dec_ne {t : Tok} {i : Int} {dx : Addr} {Q : Value → Shared → Prop} (hx : s.heap.get? x = some (instObj C dx)) (h : Q .notImplemented s) :
    wpAny (model prog w) A (call (.builtin "int.__ne__") [.int i t, .ref x]) Q E s := by
  refine GQ.call_here F.slot_int_ne (typeIs_int s i t) F.entry_int_ne (F.args_int_ne_2 _ _) ?_
  obtain ⟨hp, g, d, tk, os⟩ := s
  wp_walk using asInt_inst hx
  exact h

/-- an int on the left, an own instance on the right: the reflected method -/
theorem binop_R {op : Operator} {t : Tok} {i : Int} {id : String} {Q : Value → Shared → Prop} (X : K.In s.heap) (I : InstAt s.heap x ox C od) (hc : selfFirst K C = true)
    (hs : findIn K (.ref C) (PySem.dunder op.info.2) = some (some (.ref f'))) (hr : findIn K (.ref C) (dunderR op.info.2) = some (some (.ref f))) (hf : isFn K (.ref f) = true)
    (hsub : subIn K (.ref C) (.type "int") = some false) (hfl : fillsNumberSlot (.type "int") op.info.2 = pure true) (sl : Slot "int" (PySem.dunder op.info.2) id)
    (hd : ∀ Q : Value → Shared → Prop, Q .notImplemented s → wpAny (model prog w) A (call (.builtin id) [.int i t, .ref x]) Q E s)
    (h : wpAny (model prog w) A (call (.ref f) [.ref x, .int i t]) (PySem.W.CmpBack Q) E s) : wpAny (model prog w) A (binaryOp op (.int i t) (.ref x)) Q E s := by
  obtain ⟨cd, rest, hcd, hm⟩ := ksp_first hc
  rcases hi : op.info with ⟨sym, nm'⟩
  rw [hi] at hs hr hfl sl
  dsimp only at hs hr hfl sl
  have one := ksp_try X I hr hf h
  obtain ⟨hh, g, d, tt, os⟩ := s
  have L1 : Looks (model prog w) hh (typeOf (.ref x)) (.ref C) := I.type
  have L2 : Looks (model prog w) hh (typeOf (.int i t)) (.type "int") := Looks.of_pure rfl
  have L3 : Looks (model prog w) hh (fillsNumberSlot (.ref C) nm') true := fills_K X hcd hm hs
  have L4 : Looks (model prog w) hh (fillsNumberSlot (.type "int") nm') true := Looks.of_pure hfl
  have L5 : Looks (model prog w) hh (isSubtype (.ref C) (.type "int")) false := looks_subIn X hsub
  have L7 : Looks (model prog w) hh (numberSlotInPython (.type "int") nm') false := Looks.of_pure rfl
  have dec : wpAny (model prog w) A (tryMethod (.int i t) (PySem.dunder nm') (.ref x)) (fun r s' => r = none ∧ s' = ⟨hh, g, d, tt, os⟩) E ⟨hh, g, d, tt, os⟩ :=
    wpAny_tryMethod_declines (typeIs_int _ i t) sl (hd _ ⟨rfl, rfl, rfl⟩)
  have hne : (Value.type "int" == Value.ref C) = false := Bool.eq_false_iff.mpr fun q => by cases beq_iff_eq.mp q
  simp only [binaryOp, hi]
  refine wpAny_holding (wpAny_bind ?_)
  unfold binaryOp1
  refine wpAny_bind (L2.at (wpAny_bind (L1.at (wpAny_bind (L4.at ?_)))))
  simp only [hne, Bool.false_eq_true, if_false]
  ksp_lk
  refine wpAny_mono dec (fun r s' hr' => ?_) fun _ _ e => e
  obtain ⟨rfl, rfl⟩ := hr'
  ksp_lk
  refine wpAny_mono one (fun r s' hr' => ?_) fun _ _ e => e
  obtain ⟨v, rfl, hq⟩ := hr'
  ksp_lk
  exact hq
end

/-! ### over the layer -/
section
variable {X : Cx} {CX : CXT} {k : Nat} {f C f' : Addr} {fd : FuncData} {ps : List Str} {sp : Sp} {E : XK}

theorem cmpBack {pins : List (Addr × Obj)} {σ : L2.St} {Q : VK} {u : Value} {s : Shared} (h : EP X pins σ Q u s) : PySem.W.CmpBack (EP X pins σ Q) u s := by
  obtain ⟨v, H', I, r, q⟩ := id h
  cases v with
  | non => cases (show u = Value.none from r); exact h
  | bl b => cases (show u = Value.bool b from r); exact h
  | int i => obtain ⟨t, e⟩ := (show ∃ t, u = Value.int i t from r); cases e; exact h
  | str x => obtain ⟨t, e⟩ := (show ∃ t, u = Value.str x t from r); cases e; exact h
  | byt b => obtain ⟨t, e⟩ := (show ∃ t, u = Value.bytes b t from r); cases e; exact h
  | flt b => obtain ⟨t, e⟩ := (show ∃ t, u = Value.float b t from r); cases e; exact h
  | ref a => cases (show u = Value.ref a from r); exact h
  | ty n => cases (show u = Value.type n from r); exact h

/-- the class at C has the method nm at f -/
structure OwnOp (K : Frag) (C f : Addr) (nm : Str) : Prop where
  sf : selfFirst K C = true
  fn : findIn K (.ref C) nm = some (some (.ref f))
  isf : isFn K (.ref f) = true

/-- what is said of an own instance -/
def InsC (C : Addr) (H : Hp) (v : V) : Prop := ∃ a dx fs, v = .ref a ∧ H a = some (.ins C dx fs)
def rOwn (C : Addr) (sp : Sp) (E : XK) : R2 := fun x y H Q => InsC C H x ∧ InsC C H y ∧ sp [x, y] H Q E
def rOwnI (C : Addr) (sp : Sp) (E : XK) : R2 := fun x y H Q => InsC C H x ∧ (∃ i, y = .int i) ∧ sp [x, y] H Q E
def rRefI (C : Addr) (sp : Sp) (E : XK) : R2 := fun x y H Q => (∃ i, x = .int i) ∧ InsC C H y ∧ sp [y, x] H Q E

theorem op_own {op : Operator} (O : OwnOp X.K C f (PySem.dunder op.info.2)) (G : FnOk X.prog X.w X.K X.mg X.base CX k f fd ps sp) (hr : Room k X.A) (hb : Binds X.K fd ps []) (hx : Passes CX X E) : OpR X (binaryOp op) (rOwn C sp E) := by
  intro pins s σ H x y v u Q I rx ry h
  obtain ⟨⟨a, dx, fs, rfl, ha⟩, ⟨b, dy, gs, rfl, hb'⟩, h⟩ := h
  cases (show v = Value.ref a from rx)
  cases (show u = Value.ref b from ry)
  obtain ⟨mA, J, _⟩ := ins_get I.hok ha
  obtain ⟨mB, J', _⟩ := ins_get I.hok hb'
  obtain ⟨od, J, _⟩ := J.look
  obtain ⟨od', J', _⟩ := J'.look
  obtain ⟨m, hF⟩ := I.fr
  refine binop_K hF I.ok.mod.kin J J'.type O.sf O.fn O.isf ?_
  exact wpAny_mono (run_fn (us := [.ref a, .ref b]) (vs := [.ref a, .ref b]) (dvs := []) G hr hb .nil hx I (.cons rfl (.cons rfl .nil)) h) (fun _ _ z => cmpBack z) fun _ _ z => z

theorem op_ownI {op : Operator} {fo ro rc : Option Value} (O : OwnOp X.K C f (PySem.dunder op.info.2)) (hrc : findIn X.K (.ref C) (dunderR op.info.2) = some rc) (hp : rc = none ∨ ∃ g : Addr, rc = some (.ref g))
    (h1 : findIn X.K (.type "int") (PySem.dunder op.info.2) = some fo) (h2 : findIn X.K (.type "int") (dunderR op.info.2) = some ro) (hsub : subIn X.K (.type "int") (.ref C) = some false)
    (G : FnOk X.prog X.w X.K X.mg X.base CX k f fd ps sp) (hr : Room k X.A) (hb : Binds X.K fd ps []) (hx : Passes CX X E) : OpR X (binaryOp op) (rOwnI C sp E) := by
  intro pins s σ H x y v u Q I rx ry h
  obtain ⟨⟨a, dx, fs, rfl, ha⟩, ⟨i, rfl⟩, h⟩ := h
  cases (show v = Value.ref a from rx)
  obtain ⟨t, e⟩ := (show ∃ t, u = Value.int i t from ry)
  cases e
  obtain ⟨mA, J, _⟩ := ins_get I.hok ha
  obtain ⟨od, J, _⟩ := J.look
  obtain ⟨m, hF⟩ := I.fr
  refine ksp_binT hF I.ok.mod.kin J (T := "int") rfl O.sf O.fn O.isf hrc hp h1 h2 hsub ?_
  exact wpAny_mono (run_fn (us := [.ref a, .int i t]) (vs := [.ref a, .int i]) (dvs := []) G hr hb .nil hx I (.cons rfl (.cons ⟨t, rfl⟩ .nil)) h) (fun _ _ z => cmpBack z) fun _ _ z => z

theorem op_refI {op : Operator} {id : String} (O : OwnOp X.K C f (dunderR op.info.2)) (hs : findIn X.K (.ref C) (PySem.dunder op.info.2) = some (some (.ref f'))) (hsub : subIn X.K (.ref C) (.type "int") = some false)
    (hfl : fillsNumberSlot (.type "int") op.info.2 = pure true) (sl : Slot "int" (PySem.dunder op.info.2) id)
    (hd : ∀ {s : Shared} {x C dx : Addr} {t : Tok} {i : Int} {Q : Value → Shared → Prop}, s.heap.get? x = some (instObj C dx) → Q .notImplemented s → wpAny (model X.prog X.w) X.A (call (.builtin id) [.int i t, .ref x]) Q X.xe s)
    (G : FnOk X.prog X.w X.K X.mg X.base CX k f fd ps sp) (hr : Room k X.A) (hb : Binds X.K fd ps []) (hx : Passes CX X E) : OpR X (binaryOp op) (rRefI C sp E) := by
  intro pins s σ H x y v u Q I rx ry h
  obtain ⟨⟨i, rfl⟩, ⟨a, dx, fs, rfl, ha⟩, h⟩ := h
  cases (show u = Value.ref a from ry)
  obtain ⟨t, e⟩ := (show ∃ t, v = Value.int i t from rx)
  cases e
  obtain ⟨mA, J0, _⟩ := ins_get I.hok ha
  obtain ⟨_, _, _, hget, _⟩ := (show ObjOk X.prog X.w H s.heap a (.ins C dx fs) from I.hok a _ ha)
  obtain ⟨od, J, _⟩ := J0.look
  refine binop_R I.kIn J O.sf hs O.fn O.isf hsub hfl sl (fun Q q => hd hget q) ?_
  exact wpAny_mono (run_fn (us := [.ref a, .int i t]) (vs := [.ref a, .int i]) (dvs := []) G hr hb .nil hx I (.cons rfl (.cons ⟨t, rfl⟩ .nil)) h) (fun _ _ z => cmpBack z) fun _ _ z => z

/-- -x, abs(x) -/
def rUOwn (C : Addr) (sp : Sp) (E : XK) : V → Hp → VK → Prop := fun x H Q => InsC C H x ∧ sp [x] H Q E
theorem un_own (O : OwnOp X.K C f "__neg__") (G : FnOk X.prog X.w X.K X.mg X.base CX k f fd ps sp) (hr : Room k X.A) (hb : Binds X.K fd ps []) (hx : Passes CX X E) : UnR X (unaryOp .USub) (rUOwn C sp E) := by
  intro pins s σ H x v Q I rx h
  obtain ⟨⟨a, dx, fs, rfl, ha⟩, h⟩ := h
  cases (show v = Value.ref a from rx)
  obtain ⟨mA, J, _⟩ := ins_get I.hok ha
  obtain ⟨od, J, _⟩ := J.look
  obtain ⟨m, hF⟩ := I.fr
  exact ksp_neg hF I.ok.mod.kin J O.fn O.isf (run_fn (us := [.ref a]) (vs := [.ref a]) (dvs := []) G hr hb .nil hx I (.cons rfl .nil) h)

/-- the callee runs, called out of a builtin -/
theorem run_fn1 {pins : List (Addr × Obj)} {σ : L2.St} {H : Hp} {s : Shared} {Q : VK} {us : List Value} {vs : List V} (F : FnOk X.prog X.w X.K X.mg X.base CX k f fd ps sp) (hr : Room (k + 1) X.A) (hb : Binds X.K fd ps []) (hx : Passes CX X E)
    (I : L2.Inv X pins σ H s) (r : Vals vs us) (h : sp vs H Q E) : wpAny (model X.prog X.w) X.A.in1 (call (.ref f) us) (EP X pins σ Q) X.xe s := by
  have hl : (us ++ []).length = ps.length := by rw [List.append_nil, ← r.length]; exact F.len _ _ _ _ h
  have hb' := hb s us I.kIn hl
  rw [List.append_nil] at hb'
  refine wpAny_call (codeAny_mono (F.run X.A.in1 X.stack s H ⟨us, []⟩ us vs Q E hr.in1 I.env0.in1 hb' r h) fun r s' hq => ?_)
  cases r with
  | error e => exact hx pins σ H s e s' I hq
  | ok fl =>
    cases fl with
    | ret u => exact I.after hq
    | next => exact False.elim hq
    | brk => exact False.elim hq
    | cont => exact False.elim hq
theorem call_absO (O : OwnOp X.K C f "__abs__") (G : FnOk X.prog X.w X.K X.mg X.base CX k f fd ps sp) (hr : Room (k + 1) X.A) (hb : Binds X.K fd ps []) (hx : Passes CX X E) : CallR X (.builtin "abs") (fun xs H Q => ∃ x, xs = [x] ∧ InsC C H x ∧ sp [x] H Q E) := by
  intro pins s σ H xs us Q I r h
  obtain ⟨x, rfl, ⟨a, dx, fs, rfl, ha⟩, h⟩ := h
  obtain ⟨u, rfl, r1⟩ := vals1 r
  cases (show u = Value.ref a from r1)
  obtain ⟨mA, J, _⟩ := ins_get I.hok ha
  obtain ⟨od, J, _⟩ := J.look
  refine PySem.Calls.call_function_entry kind_abs plain_abs entry_abs (args_abs _) ?_
  unfold Builtin.«abs»
  refine wpAny_bind (m := oneArg "abs" _) (wpAny_pure ?_)
  refine wpAny_bind (special_fn I.kIn J O.fn (beq_iff_eq.mp O.isf) (wpAny_mono (run_fn1 (us := [.ref a]) (vs := [.ref a]) G hr hb hx I (.cons rfl .nil) h) (fun v s' z => ?_) fun _ _ z => z))
  exact wpAny_pure ⟨_, rfl, z⟩
end
end Ps

/-! Fractions in lowest terms, in plain Lean. -/
namespace Ps
def lowG (t u : Int) : Int := if u < 0 then -(Int.gcd t u : Int) else (Int.gcd t u : Int)
/-- what Share keeps of a top and an under -/
def low (t u : Int) : Int × Int := (t.fdiv (lowG t u), u.fdiv (lowG t u))
theorem gcd_pos {t u : Int} (hu : u ≠ 0) : 0 < Int.gcd t u := Int.gcd_pos_of_ne_zero_right t hu
theorem lowG_ne {t u : Int} (hu : u ≠ 0) : lowG t u ≠ 0 := by
  have h := gcd_pos (t := t) hu
  unfold lowG
  split <;> omega
theorem lowG_abs (t u : Int) : (lowG t u).natAbs = Int.gcd t u := by
  unfold lowG
  split <;> omega
theorem lowG_dvd_left (t u : Int) : lowG t u ∣ t := by
  have h : (Int.gcd t u : Int) ∣ t := Int.gcd_dvd_left ..
  unfold lowG
  split
  · exact Int.neg_dvd.mpr h
  · exact h
theorem lowG_dvd_right (t u : Int) : lowG t u ∣ u := by
  have h : (Int.gcd t u : Int) ∣ u := Int.gcd_dvd_right ..
  unfold lowG
  split
  · exact Int.neg_dvd.mpr h
  · exact h
theorem low_fst {t u : Int} (hu : u ≠ 0) : (low t u).1 * lowG t u = t := by
  obtain ⟨c, hc⟩ := lowG_dvd_left t u
  show t.fdiv (lowG t u) * lowG t u = t
  have : t.fdiv (lowG t u) = c := by
    rw [Int.fdiv_eq_of_eq_mul_right (lowG_ne hu) hc]
  rw [this, Int.mul_comm, ← hc]
theorem low_snd {t u : Int} (hu : u ≠ 0) : (low t u).2 * lowG t u = u := by
  obtain ⟨c, hc⟩ := lowG_dvd_right t u
  show u.fdiv (lowG t u) * lowG t u = u
  have : u.fdiv (lowG t u) = c := by
    rw [Int.fdiv_eq_of_eq_mul_right (lowG_ne hu) hc]
  rw [this, Int.mul_comm, ← hc]
theorem lowG_scale (k t u : Int) (hu : u ≠ 0) (hk : k ≠ 0) : lowG (k * t) (k * u) = k * lowG t u := by
  unfold lowG
  rw [Int.gcd_mul_left]
  have e : ((k.natAbs * Int.gcd t u : Nat) : Int) = (k.natAbs : Int) * (Int.gcd t u : Int) := by push_cast; rfl
  rw [e]
  rcases Int.lt_or_gt_of_ne hk with h | h
  · have ek : (k.natAbs : Int) = -k := by omega
    rw [ek]
    rcases Int.lt_or_gt_of_ne hu with h' | h'
    · have : 0 < k * u := Int.mul_pos_of_neg_of_neg h h'
      rw [if_neg (by omega), if_pos h', Int.neg_mul, Int.mul_neg]
    · have : k * u < 0 := Int.mul_neg_of_neg_of_pos h h'
      rw [if_pos this, if_neg (by omega), Int.neg_mul, Int.neg_neg]
  · have ek : (k.natAbs : Int) = k := by omega
    rw [ek]
    rcases Int.lt_or_gt_of_ne hu with h' | h'
    · have : k * u < 0 := Int.mul_neg_of_pos_of_neg h h'
      rw [if_pos this, if_pos h', Int.mul_neg]
    · have : 0 < k * u := Int.mul_pos h h'
      rw [if_neg (by omega), if_neg (by omega)]
/-- from an equation by products -/
theorem fdiv_of {a b c : Int} (hb : b ≠ 0) (h : a = c * b) : a.fdiv b = c := by
  rw [Int.fdiv_eq_of_eq_mul_right hb (by rw [h, Int.mul_comm])]
theorem low_scale (k t u : Int) (hu : u ≠ 0) (hk : k ≠ 0) : low (k * t) (k * u) = low t u := by
  have h1 := low_fst (t := t) hu
  have h2 := low_snd (t := t) hu
  have hg := lowG_ne (t := t) hu
  have hkg : k * lowG t u ≠ 0 := Int.mul_ne_zero hk hg
  unfold low
  rw [lowG_scale k t u hu hk]
  refine Prod.ext ?_ ?_
  · show (k * t).fdiv (k * lowG t u) = (low t u).1
    refine fdiv_of hkg ?_
    rw [show (low t u).1 * (k * lowG t u) = k * ((low t u).1 * lowG t u) by rw [Int.mul_left_comm], h1]
  · show (k * u).fdiv (k * lowG t u) = (low t u).2
    refine fdiv_of hkg ?_
    rw [show (low t u).2 * (k * lowG t u) = k * ((low t u).2 * lowG t u) by rw [Int.mul_left_comm], h2]
/-- the same fraction -/
theorem low_of {t u a b k : Int} (hb : b ≠ 0) (hk : k ≠ 0) (h1 : t = k * a) (h2 : u = k * b) : low t u = low a b := by
  rw [h1, h2, low_scale k a b hb hk]
theorem low_pos {t u : Int} (hu : u ≠ 0) : 0 < (low t u).2 := by
  have h2 := low_snd (t := t) hu
  have hg := gcd_pos (t := t) hu
  unfold lowG at h2
  rcases Int.lt_or_gt_of_ne hu with h | h
  · rw [if_pos h] at h2
    rcases Int.lt_trichotomy (low t u).2 0 with z | z | z
    · have := Int.mul_pos_of_neg_of_neg z (show -(Int.gcd t u : Int) < 0 by omega)
      omega
    · rw [z, Int.zero_mul] at h2; omega
    · exact z
  · rw [if_neg (by omega)] at h2
    rcases Int.lt_trichotomy (low t u).2 0 with z | z | z
    · have := Int.mul_neg_of_neg_of_pos z (show (0 : Int) < (Int.gcd t u : Int) by omega)
      omega
    · rw [z, Int.zero_mul] at h2; omega
    · exact z
theorem low_le1 {t u : Int} (hu : u ≠ 0) : (low t u).1.natAbs ≤ t.natAbs := by
  have h := congrArg Int.natAbs (low_fst (t := t) hu)
  rw [Int.natAbs_mul, lowG_abs] at h
  rw [← h]
  exact Nat.le_mul_of_pos_right _ (gcd_pos hu)
theorem low_le2 {t u : Int} (hu : u ≠ 0) : (low t u).2.natAbs ≤ u.natAbs := by
  have h := congrArg Int.natAbs (low_snd (t := t) hu)
  rw [Int.natAbs_mul, lowG_abs] at h
  rw [← h]
  exact Nat.le_mul_of_pos_right _ (gcd_pos hu)
theorem low_gcd {t u : Int} (hu : u ≠ 0) : Int.gcd (low t u).1 (low t u).2 = 1 := by
  have h1 := low_fst (t := t) hu
  have h2 := low_snd (t := t) hu
  have e : Int.gcd t u = Int.gcd (low t u).1 (low t u).2 * Int.gcd t u := by
    have := Int.gcd_mul_right (low t u).1 (lowG t u) (low t u).2
    rw [h1, h2, lowG_abs] at this
    exact this
  have hg := gcd_pos (t := t) hu
  have := Nat.eq_of_mul_eq_mul_right hg (show 1 * Int.gcd t u = Int.gcd (low t u).1 (low t u).2 * Int.gcd t u by rw [Nat.one_mul]; exact e)
  exact this.symm
theorem low_id {t u : Int} (hu : 0 < u) (hg : Int.gcd t u = 1) : low t u = (t, u) := by
  have e : lowG t u = 1 := by
    unfold lowG
    rw [if_neg (by omega), hg]; rfl
  unfold low
  rw [e, Int.fdiv_one, Int.fdiv_one]
theorem low_low {t u : Int} (hu : u ≠ 0) : low (low t u).1 (low t u).2 = low t u := by
  rw [low_id (low_pos hu) (low_gcd hu)]
theorem low_one (t : Int) : low t 1 = (t, 1) := low_id (by decide) (by simp)
/-! sums, products and quotients of fractions in lowest terms -/
theorem low_ex (t : Int) {u : Int} (hu : u ≠ 0) : ∃ a b g, low t u = (a, b) ∧ g ≠ 0 ∧ 0 < b ∧ t = a * g ∧ u = b * g :=
  ⟨(low t u).1, (low t u).2, lowG t u, rfl, lowG_ne hu, low_pos hu, (low_fst hu).symm, (low_snd hu).symm⟩
theorem low_add {t u c d : Int} (hu : u ≠ 0) (hd : d ≠ 0) : low ((low t u).1 * (low c d).2 + (low c d).1 * (low t u).2) ((low t u).2 * (low c d).2) = low (t * d + c * u) (u * d) := by
  obtain ⟨a, b, g, e1, hg, hb, rfl, rfl⟩ := low_ex t hu
  obtain ⟨p, q, h, e2, hh, hq, rfl, rfl⟩ := low_ex c hd
  rw [e1, e2]
  symm
  refine low_of (k := g * h) (Int.ne_of_gt (Int.mul_pos hb hq)) (Int.mul_ne_zero hg hh) ?_ ?_
  · show a * g * (q * h) + p * h * (b * g) = g * h * (a * q + p * b)
    grind
  · show b * g * (q * h) = g * h * (b * q)
    grind
theorem low_sub {t u c d : Int} (hu : u ≠ 0) (hd : d ≠ 0) : low ((low t u).1 * (low c d).2 + -(low c d).1 * (low t u).2) ((low t u).2 * (low c d).2) = low (t * d - c * u) (u * d) := by
  obtain ⟨a, b, g, e1, hg, hb, rfl, rfl⟩ := low_ex t hu
  obtain ⟨p, q, h, e2, hh, hq, rfl, rfl⟩ := low_ex c hd
  rw [e1, e2]
  symm
  refine low_of (k := g * h) (Int.ne_of_gt (Int.mul_pos hb hq)) (Int.mul_ne_zero hg hh) ?_ ?_
  · show a * g * (q * h) - p * h * (b * g) = g * h * (a * q + -p * b)
    grind
  · show b * g * (q * h) = g * h * (b * q)
    grind
theorem low_mul {t u c d : Int} (hu : u ≠ 0) (hd : d ≠ 0) : low ((low t u).1 * (low c d).1) ((low t u).2 * (low c d).2) = low (t * c) (u * d) := by
  obtain ⟨a, b, g, e1, hg, hb, rfl, rfl⟩ := low_ex t hu
  obtain ⟨p, q, h, e2, hh, hq, rfl, rfl⟩ := low_ex c hd
  rw [e1, e2]
  symm
  refine low_of (k := g * h) (Int.ne_of_gt (Int.mul_pos hb hq)) (Int.mul_ne_zero hg hh) ?_ ?_
  · show a * g * (p * h) = g * h * (a * p)
    grind
  · show b * g * (q * h) = g * h * (b * q)
    grind
theorem low_ne0 {t u : Int} (hu : u ≠ 0) : (low t u).1 = 0 ↔ t = 0 := by
  have h := low_fst (t := t) hu
  constructor
  · intro z
    rw [z, Int.zero_mul] at h
    exact h.symm
  · intro z
    rw [z] at h
    rcases Int.mul_eq_zero.mp h with y | y
    · rw [z]; exact y
    · exact absurd y (lowG_ne hu)
theorem low_by {t u c d : Int} (hu : u ≠ 0) (hd : d ≠ 0) (hc : c ≠ 0) : low ((low t u).1 * (low c d).2) ((low t u).2 * (low c d).1) = low (t * d) (u * c) := by
  have z : ¬ (low c d).1 = 0 := fun y => hc ((low_ne0 (t := c) hd).mp y)
  obtain ⟨a, b, g, e1, hg, hb, rfl, rfl⟩ := low_ex t hu
  obtain ⟨p, q, h, e2, hh, hq, rfl, rfl⟩ := low_ex c hd
  rw [e2] at z
  rw [e1, e2]
  symm
  refine low_of (k := g * h) (Int.mul_ne_zero (Int.ne_of_gt hb) z) (Int.mul_ne_zero hg hh) ?_ ?_
  · show a * g * (q * h) = g * h * (a * q)
    grind
  · show b * g * (p * h) = g * h * (b * p)
    grind
theorem low_neg {t u : Int} (hu : u ≠ 0) : low (-(low t u).1) (low t u).2 = low (-t) u := by
  obtain ⟨a, b, g, e1, hg, hb, rfl, rfl⟩ := low_ex t hu
  rw [e1]
  symm
  refine low_of (k := g) (Int.ne_of_gt hb) hg ?_ ?_
  · show -(a * g) = g * -a
    grind
  · show b * g = g * b
    grind
/-- a fraction in lowest terms, its sign turned -/
theorem low_neg_eq {t u : Int} (hu : u ≠ 0) : low (-t) u = (-(low t u).1, (low t u).2) := by
  rw [← low_neg hu]
  refine low_id (low_pos hu) ?_
  rw [Int.neg_gcd]
  exact low_gcd hu
def iabs (i : Int) : Int := if i < 0 then -i else i
theorem iabs_eq (i : Int) : iabs i = (i.natAbs : Int) := by unfold iabs; split <;> omega
theorem low_abs {t u : Int} (hu : u ≠ 0) : low (iabs (low t u).1) (low t u).2 = low (iabs t) (iabs u) := by
  obtain ⟨a, b, g, e1, hg, hb, rfl, rfl⟩ := low_ex t hu
  rw [e1, iabs_eq, iabs_eq, iabs_eq]
  symm
  refine low_of (k := g.natAbs) (Int.ne_of_gt hb) (by omega) ?_ ?_
  · show ((a * g).natAbs : Int) = g.natAbs * (a.natAbs : Int)
    rw [Int.natAbs_mul, Int.natCast_mul, Int.mul_comm]
  · show ((b * g).natAbs : Int) = g.natAbs * b
    rw [Int.natAbs_mul, Int.natCast_mul, Int.mul_comm, show (b.natAbs : Int) = b by omega]
theorem low_floor {t u : Int} (hu : u ≠ 0) : (low t u).1 / (low t u).2 = t.fdiv u := by
  obtain ⟨a, b, g, e1, hg, hb, rfl, rfl⟩ := low_ex t hu
  rw [e1]
  show a / b = (a * g).fdiv (b * g)
  rcases Int.lt_or_gt_of_ne hg with h | h
  · rw [show a * g = -(a * -g) by grind, show b * g = -(b * -g) by grind, Int.neg_fdiv_neg, Int.fdiv_eq_ediv_of_nonneg _ (Int.le_of_lt (Int.mul_pos hb (by omega))), Int.mul_ediv_mul_of_pos_left _ _ (by omega)]
  · rw [Int.fdiv_eq_ediv_of_nonneg _ (Int.le_of_lt (Int.mul_pos hb h)), Int.mul_ediv_mul_of_pos_left _ _ h]
theorem gcd_step {x y : Int} (hx : 0 ≤ x) (hy : 0 ≤ y) : Int.gcd y (x % y) = Int.gcd x y := by
  obtain ⟨m, rfl⟩ := Int.eq_ofNat_of_zero_le hx
  obtain ⟨n, rfl⟩ := Int.eq_ofNat_of_zero_le hy
  rw [← Int.natCast_emod, Int.gcd_natCast_natCast, Int.gcd_natCast_natCast, Nat.gcd_comm n, ← Nat.gcd_rec, Nat.gcd_comm]
end Ps

/-! Defs, methods, classes, operators, properties of the text as things to be called, their addresses hidden. -/
namespace Ps
open PySem PySem.Spec PyProof.Rows PySem.W L2

/-- where one stands, the same for all defs of the text -/
structure Cz where
  P : Program
  w : World
  K : Frag
  mg : Str → Option Value
  base : Heap
abbrev Cz.ok (Z : Cz) (CX : CXT) (k : Nat) (f : Addr) (fd : FuncData) (ps : List Str) (sp : Sp) : Prop := FnOk Z.P Z.w Z.K Z.mg Z.base CX k f fd ps sp
/-- a def -/
def Cal (Z : Cz) (CX : CXT) (k : Nat) (x : Str) (ps : List Str) (dvs : List V) (sp : Sp) : Prop := ∃ f fd ds, Z.ok CX k f fd ps sp ∧ Z.mg x = some (.ref f) ∧ keepIn Z.K (.ref f) = true ∧ Binds Z.K fd ps ds ∧ Vals dvs ds
/-- a method m of the class at C -/
def CalM (Z : Cz) (CX : CXT) (k : Nat) (C : Addr) (m : Str) (ps : List Str) (dvs : List V) (sp : Sp) : Prop := ∃ f fd ds, Z.ok CX k f fd ps sp ∧ Meth Z.K C m f ∧ Cls Z.K C ∧ Binds Z.K fd ps ds ∧ Vals dvs ds
/-- the class at C, made by its __init__ -/
def CalC (Z : Cz) (CX : CXT) (k : Nat) (C : Addr) (x : Str) (ps : List Str) (dvs : List V) (sp : Sp) : Prop := ∃ f fd ds, Z.ok CX k f fd ps sp ∧ Mk Z.K C f ∧ Z.mg x = some (.ref C) ∧ Binds Z.K fd ps ds ∧ Vals dvs ds
/-- a special method nm of the class at C -/
def CalS (Z : Cz) (CX : CXT) (k : Nat) (C : Addr) (nm : Str) (ps : List Str) (sp : Sp) : Prop := ∃ f fd, Z.ok CX k f fd ps sp ∧ OwnOp Z.K C f nm ∧ Binds Z.K fd ps []
/-- a property -/
def CalP (Z : Cz) (CX : CXT) (k : Nat) (C : Addr) (nm : Str) (sp : Sp) : Prop := ∃ p g fd ds, Z.ok CX k g fd ["self"] sp ∧ PropOf Z.K C nm p g ∧ Cls Z.K C ∧ Binds Z.K fd ["self"] ds ∧ Vals [] ds

/-- a body stands in Z -/
structure InZ (Z : Cz) (X : Cx) : Prop where
  P : X.prog = Z.P
  w : X.w = Z.w
  K : X.K = Z.K
  mg : X.mg = Z.mg
  base : X.base = Z.base

section
variable {Z : Cz} {X : Cx} {CX : CXT} {k : Nat} {C : Addr} {ps : List Str} {sp : Sp} {dvs : List V} {E : XK} {x m nm : Str} {p pos apos : Pos} {e o a b : Expr} {es : List Expr} {ta tb : TE} {t : TA}
theorem InZ.ok (z : InZ Z X) {f : Addr} {fd : FuncData} (G : Z.ok CX k f fd ps sp) : FnOk X.prog X.w X.K X.mg X.base CX k f fd ps sp := by
  obtain ⟨h1, h2, h3, h4, h5⟩ := z
  rw [h1, h2, h3, h4, h5]
  exact G
theorem pe_cal (c : Cal Z CX k x ps dvs sp) (hr : Room k X.A) (hg : Gl X x) (hx : Passes CX X E) (ha : PA X (e :: es) t) (z : InZ Z X := by exact ⟨rfl, rfl, rfl, rfl, rfl⟩)
    (hdb : (x == ("__debug__" : Str)) = false := by decide) (he : starEach (e :: es) X.env = (false, eval e X.env) :: starEach es X.env := by rfl) (hpl : (backTo pos (starEach es X.env)).any (·.1) = false := by rfl) :
    PE X (.Call (.Name x p) (e :: es) [] pos) (tCall sp dvs E t) := by
  obtain ⟨f, fd, ds, G, h1, h2, h3, h4⟩ := c
  exact pe_call (z.ok G) hr hg (by rw [z.mg]; exact h1) (by rw [z.K]; exact h2) (by rw [z.K]; exact h3) h4 hx ha hdb he hpl
theorem pe_cal0 (c : Cal Z CX k x ps dvs sp) (hr : Room k X.A) (hg : Gl X x) (hx : Passes CX X E) (z : InZ Z X := by exact ⟨rfl, rfl, rfl, rfl, rfl⟩)
    (hdb : (x == ("__debug__" : Str)) = false := by decide) : PE X (.Call (.Name x p) [] [] pos) (tCall sp dvs E tNil) := by
  obtain ⟨f, fd, ds, G, h1, h2, h3, h4⟩ := c
  exact pe_call0 (z.ok G) hr hg (by rw [z.mg]; exact h1) (by rw [z.K]; exact h2) (by rw [z.K]; exact h3) h4 hx hdb
theorem pe_calM {pl : Sem Bool} (c : CalM Z CX k C m ps dvs sp) (hr : Room k X.A) (hx : Passes CX X E) (he : PE X o ta) (ha : PA X (e :: es) t) (z : InZ Z X := by exact ⟨rfl, rfl, rfl, rfl, rfl⟩)
    (hst : starEach (e :: es) X.env = (false, eval e X.env) :: starEach es X.env := by rfl) (hpl : (backTo pos (starEach es X.env)).any (·.1) = false := by rfl)
    (ht : eval (.Call (.Attribute o m apos) (e :: es) [] pos) X.env = (do
      let ov ← eval o X.env
      standAt apos.atName
      let (f, first) ← holding [ov] (getMethod ov m pl)
      callWith pos f first (backTo pos (starEach (e :: es) X.env)) (backToKw pos (keywordEach [] X.env))) := by rfl) :
    PE X (.Call (.Attribute o m apos) (e :: es) [] pos) (tMeth C m sp dvs E ta t) := by
  obtain ⟨f, fd, ds, G, h1, h2, h3, h4⟩ := c
  exact pe_meth (pl := pl) he (by rw [z.K]; exact h2) (by rw [z.K]; exact h1) (z.ok G) hr (by rw [z.K]; exact h3) h4 hx ha hst hpl ht
theorem pe_calM0 {pl : Sem Bool} (c : CalM Z CX k C m ps dvs sp) (hr : Room k X.A) (hx : Passes CX X E) (he : PE X o ta) (z : InZ Z X := by exact ⟨rfl, rfl, rfl, rfl, rfl⟩)
    (ht : eval (.Call (.Attribute o m apos) [] [] pos) X.env = (do
      let ov ← eval o X.env
      standAt apos.atName
      let (f, first) ← holding [ov] (getMethod ov m pl)
      callWith pos f first (backTo pos (starEach [] X.env)) (backToKw pos (keywordEach [] X.env))) := by rfl) :
    PE X (.Call (.Attribute o m apos) [] [] pos) (tMeth C m sp dvs E ta tNil) := by
  obtain ⟨f, fd, ds, G, h1, h2, h3, h4⟩ := c
  exact pe_meth0 (pl := pl) he (by rw [z.K]; exact h2) (by rw [z.K]; exact h1) (z.ok G) hr (by rw [z.K]; exact h3) h4 hx ht
theorem pe_calC (c : CalC Z CX k C x ps dvs sp) (hr : Room (k + 1) X.A) (hg : Gl X x) (hx : Passes CX X E) (ha : PA X (e :: es) t) (z : InZ Z X := by exact ⟨rfl, rfl, rfl, rfl, rfl⟩)
    (hdb : (x == ("__debug__" : Str)) = false := by decide) (he : starEach (e :: es) X.env = (false, eval e X.env) :: starEach es X.env := by rfl) (hpl : (backTo pos (starEach es X.env)).any (·.1) = false := by rfl) :
    PE X (.Call (.Name x p) (e :: es) [] pos) (tMake C sp dvs E t) := by
  obtain ⟨f, fd, ds, G, h1, h2, h3, h4⟩ := c
  exact pe_make (by rw [z.K]; exact h1) (z.ok G) hr hg (by rw [z.mg]; exact h2) (by rw [z.K]; exact h3) h4 hx ha hdb he hpl
theorem pe_calP (c : CalP Z CX k C nm sp) (hr : Room (k + 1) X.A) (hx : Passes CX X.nox E) (he : PE X e ta) (hab : attributeBase e nm X.env (eval e X.env) = eval e X.env) (z : InZ Z X := by exact ⟨rfl, rfl, rfl, rfl, rfl⟩) : PE X (.Attribute e nm pos) (tProp C sp [] E ta) := by
  obtain ⟨p, g, fd, ds, G, h1, h2, h3, h4⟩ := c
  exact pe_prop he (by rw [z.K]; exact h2) (by rw [z.K]; exact h1) (z.ok G) hr (by rw [z.K]; exact h3) h4 hx hab

/-- what is known of the number methods of a class and of int's -/
structure NumF (K : Frag) (C : Addr) (nm : String) : Prop where
  l : ∃ f, findIn K (.ref C) (PySem.dunder nm) = some (some (.ref f))
  r : ∃ f, findIn K (.ref C) (dunderR nm) = some (some (.ref f))
  il : ∃ o, findIn K (.type "int") (PySem.dunder nm) = some o
  ir : ∃ o, findIn K (.type "int") (dunderR nm) = some o
  sub : subIn K (.type "int") (.ref C) = some false
  sup : subIn K (.ref C) (.type "int") = some false
/-- a number on the right: x + y, x an own instance, y one or an int -/
def rNum (C : Addr) (sp : Sp) (E : XK) : R2 := fun x y H Q => InsC C H x ∧ (InsC C H y ∨ ∃ i, y = .int i) ∧ sp [x, y] H Q E
theorem op_num {op : Operator} (c : CalS Z CX k C (PySem.dunder op.info.2) ps sp) (N : NumF Z.K C op.info.2) (hr : Room k X.A) (hx : Passes CX X E) (z : InZ Z X := by exact ⟨rfl, rfl, rfl, rfl, rfl⟩) : OpR X (binaryOp op) (rNum C sp E) := by
  obtain ⟨f, fd, G, h1, h2⟩ := c
  obtain ⟨_, ⟨fr, hfr⟩, ⟨o1, ho1⟩, ⟨o2, ho2⟩, hs1, hs2⟩ := N
  have z' := z
  obtain ⟨e1, e2, e3, e4, e5⟩ := z
  intro pins s σ H x y v u Q I rx ry h
  obtain ⟨hx', hy | hy, hsp⟩ := h
  · exact op_own (by rw [e3]; exact h1) (z'.ok G) hr (by rw [e3]; exact h2) hx pins s σ H x y v u Q I rx ry ⟨hx', hy, hsp⟩
  · exact op_ownI (rc := some (.ref fr)) (by rw [e3]; exact h1) (by rw [e3]; exact hfr) (.inr ⟨fr, rfl⟩) (by rw [e3]; exact ho1) (by rw [e3]; exact ho2) (by rw [e3]; exact hs1) (z'.ok G) hr (by rw [e3]; exact h2) hx pins s σ H x y v u Q I rx ry ⟨hx', hy, hsp⟩
theorem op_rev {op : Operator} {id : String} (c : CalS Z CX k C (dunderR op.info.2) ps sp) (N : NumF Z.K C op.info.2) (hfl : fillsNumberSlot (.type "int") op.info.2 = pure true) (sl : Slot "int" (PySem.dunder op.info.2) id)
    (hd : ∀ {s : Shared} {x C dx : Addr} {t : Tok} {i : Int} {Q : Value → Shared → Prop}, s.heap.get? x = some (instObj C dx) → Q .notImplemented s → wpAny (model X.prog X.w) X.A (call (.builtin id) [.int i t, .ref x]) Q X.xe s)
    (hr : Room k X.A) (hx : Passes CX X E) (z : InZ Z X := by exact ⟨rfl, rfl, rfl, rfl, rfl⟩) : OpR X (binaryOp op) (rRefI C sp E) := by
  obtain ⟨f, fd, G, h1, h2⟩ := c
  obtain ⟨⟨fl, hfl'⟩, _, _, _, hs1, hs2⟩ := N
  have z' := z
  obtain ⟨e1, e2, e3, e4, e5⟩ := z
  exact op_refI (f' := fl) (by rw [e3]; exact h1) (by rw [e3]; exact hfl') (by rw [e3]; exact hs2) hfl sl hd (z'.ok G) hr (by rw [e3]; exact h2) hx
theorem op_radd (c : CalS Z CX k C "__radd__" ps sp) (N : NumF Z.K C "add") (hr : Room k X.A) (hx : Passes CX X E) (z : InZ Z X := by exact ⟨rfl, rfl, rfl, rfl, rfl⟩) : OpR X (binaryOp .Add) (rRefI C sp E) :=
  op_rev (op := .Add) c N F.fills_int_add F.slot_int_add (fun h q => dec_add h q) hr hx z
theorem op_rsub (c : CalS Z CX k C "__rsub__" ps sp) (N : NumF Z.K C "sub") (hr : Room k X.A) (hx : Passes CX X E) (z : InZ Z X := by exact ⟨rfl, rfl, rfl, rfl, rfl⟩) : OpR X (binaryOp .Sub) (rRefI C sp E) :=
  op_rev (op := .Sub) c N F.fills_int_sub F.slot_int_sub (fun h q => dec_sub h q) hr hx z
theorem op_rmul (c : CalS Z CX k C "__rmul__" ps sp) (N : NumF Z.K C "mul") (hr : Room k X.A) (hx : Passes CX X E) (z : InZ Z X := by exact ⟨rfl, rfl, rfl, rfl, rfl⟩) : OpR X (binaryOp .Mult) (rRefI C sp E) :=
  op_rev (op := .Mult) c N F.fills_int_mul F.slot_int_mul (fun h q => dec_mul h q) hr hx z
theorem un_cal (c : CalS Z CX k C "__neg__" ps sp) (hr : Room k X.A) (hx : Passes CX X E) (z : InZ Z X := by exact ⟨rfl, rfl, rfl, rfl, rfl⟩) : UnR X (unaryOp .USub) (rUOwn C sp E) := by
  obtain ⟨f, fd, G, h1, h2⟩ := c
  have z' := z
  obtain ⟨e1, e2, e3, e4, e5⟩ := z
  exact un_own (by rw [e3]; exact h1) (z'.ok G) hr (by rw [e3]; exact h2) hx
theorem abs_cal (c : CalS Z CX k C "__abs__" ps sp) (hr : Room (k + 1) X.A) (hx : Passes CX X E) (z : InZ Z X := by exact ⟨rfl, rfl, rfl, rfl, rfl⟩) : CallR X (.builtin "abs") (fun xs H Q => ∃ x, xs = [x] ∧ InsC C H x ∧ sp [x] H Q E) := by
  obtain ⟨f, fd, G, h1, h2⟩ := c
  have z' := z
  obtain ⟨e1, e2, e3, e4, e5⟩ := z
  exact call_absO (by rw [e3]; exact h1) (z'.ok G) hr (by rw [e3]; exact h2) hx
end
/-! ### tests -/
theorem iteD {c A B : Prop} [Decidable c] (h1 : c → A) (h2 : ¬ c → B) : if decide c = true then A else B := by
  by_cases h : c
  · rw [decide_eq_true h]; exact iteT (h1 h)
  · rw [decide_eq_false h]; exact iteF (h2 h)
theorem iteND {c A B : Prop} [Decidable c] (h1 : ¬ c → A) (h2 : c → B) : if (!decide c) = true then A else B := by
  by_cases h : c
  · rw [decide_eq_true h]; exact iteF (h2 h)
  · rw [decide_eq_false h]; exact iteT (h1 h)
theorem iteB {b : Bool} {A B : Prop} (h1 : b = true → A) (h2 : b = false → B) : if b = true then A else B := by
  cases b with
  | true => exact iteT (h1 rfl)
  | false => exact iteF (h2 rfl)
/-! ### short words for built-ins -/
section
variable {X : Cx} {e : Expr} {te : TE} {p pos : Pos}
/-- int(e) of an int -/
def rInt1 : List V → Hp → VK → Prop := fun xs H Q => ∃ i, xs = [.int i] ∧ Q (.int i) H
theorem call_intI : CallR X (.type "int") rInt1 := by
  intro pins s σ H xs us Q I r h
  exact call_int1 pins s σ H xs us Q I r (.inl h)
theorem pe_int1 (hg : Gl X "int") (hm : X.mg "int" = none) (he : PE X e te) (hs : starEach (e :: []) X.env = (false, eval e X.env) :: starEach [] X.env := by rfl) (hpl : (backTo pos (starEach [] X.env)).any (·.1) = false := by rfl) : PE X (.Call (.Name "int" p) [e] [] pos) (tCB rInt1 (tCons te tNil)) :=
  pe_callTy call_intI hg hm (by decide +kernel) (pa_cons he pa_nil hs) (by decide) (by decide) hs hpl
end
/-! ### from what stands behind the top -/
section
variable {Z : Cz} {CX : CXT} {k : Nat} {C : Addr} {ps : List Str} {sp : Sp} {dvs : List V} {x m nm qual : Str} {st : Stmt}
theorem Cal.mono {j : Nat} (c : Cal Z CX k x ps dvs sp) (h : k ≤ j) : Cal Z CX j x ps dvs sp := by
  obtain ⟨f, fd, ds, G, h1⟩ := c
  exact ⟨f, fd, ds, G.mono h, h1⟩
theorem CalM.mono {j : Nat} (c : CalM Z CX k C x ps dvs sp) (h : k ≤ j) : CalM Z CX j C x ps dvs sp := by
  obtain ⟨f, fd, ds, G, h1⟩ := c
  exact ⟨f, fd, ds, G.mono h, h1⟩
theorem CalS.mono {j : Nat} (c : CalS Z CX k C x ps sp) (h : k ≤ j) : CalS Z CX j C x ps sp := by
  obtain ⟨f, fd, G, h1⟩ := c
  exact ⟨f, fd, G.mono h, h1⟩
end
end Ps

/-! Shares: the promises of the defs of shares.py where nothing is raised. -/
namespace Ps
open PySem PySem.Spec PyProof.Rows PySem.W L2

/-! ### floor division by any divisor but 0, below 2 ^ 9000 -/
def CDivG (_ j : Int) : Prop := j ≠ 0 ∧ j.natAbs.log2 < 9000
theorem op_fdivG {X : Cx} : OpR X (binaryOp .FloorDiv) (rI CDivG fun i j => .int (i.fdiv j)) := opI fun i j _ _ _ _ _ hc q => floordiv_int hc.1 q (.inl (PyProof.noPylong_of_log2 hc.2))
theorem divG {i j : Int} {b : Nat} (h : j ≠ 0) (hb : j.natAbs < 2 ^ b) (h0 : 0 < b) (h9 : b ≤ 9000) : CDivG i j := ⟨h, Nat.lt_of_lt_of_le (PySem.Flt.log2_lt_of h0 hb) h9⟩

/-- the name of a built-in class -/
theorem pe_ty {X : Cx} {x : Str} {pos : Pos} (T : String) (hg : Gl X x) (hm : X.mg x = none) (hv : bootBuiltins x = some (.type T)) (hn : x ≠ "__name__" := by decide) (hd : (x == ("__debug__" : Str)) = false := by decide) : PE X (.Name x pos) (tC (.ty T)) := pe_bltn hg hm hv rfl hn hd

/-! ### the data -/
def shF (t u : Int) : List (Str × V) := [("own_top", .int t), ("own_under", .int u)]
/-- v is a share t / u -/
def Sh (C : Addr) (H : Hp) (v : V) (q : Int × Int) : Prop := ∃ a dx, v = .ref a ∧ H a = some (.ins C dx (shF q.1 q.2))
theorem Sh.mono {C : Addr} {H H' : Hp} {v : V} {q : Int × Int} (e : Same H H') (h : Sh C H v q) : Sh C H' v q := by
  obtain ⟨a, dx, hv, h⟩ := h
  exact ⟨a, dx, hv, e _ _ h⟩
theorem Sh.ins {C : Addr} {H : Hp} {v : V} {q : Int × Int} (h : Sh C H v q) : InsC C H v := by
  obtain ⟨a, dx, hv, h⟩ := h
  exact ⟨a, dx, _, hv, h⟩
theorem shF_top (t u : Int) : (shF t u).lookup ("own_top" : Str) = some (.int t) := rfl
theorem shF_under (t u : Int) : (shF t u).lookup ("own_under" : Str) = some (.int u) := by
  unfold shF
  rw [List.lookup_cons]
  rfl

/-- a number: a share or an int -/
def Nb (C : Addr) (H : Hp) (v : V) (q : Int × Int) : Prop := Sh C H v q ∨ ∃ i, v = .int i ∧ q = (i, 1)
theorem Nb.mono {C : Addr} {H H' : Hp} {v : V} {q : Int × Int} (e : Same H H') (h : Nb C H v q) : Nb C H' v q := by
  rcases h with h | h
  · exact .inl (h.mono e)
  · exact .inr h
theorem Nb.num {C : Addr} {H : Hp} {v : V} {q : Int × Int} (h : Nb C H v q) : InsC C H v ∨ ∃ i, v = .int i := by
  rcases h with h | ⟨i, h, _⟩
  · exact .inl h.ins
  · exact .inr ⟨i, h⟩
/-- sizes: both parts below 2 ^ n, the under not 0 -/
structure Sz (n : Nat) (q : Int × Int) : Prop where
  ne : q.2 ≠ 0
  t : q.1.natAbs < 2 ^ n
  u : q.2.natAbs < 2 ^ n

/-- what stands at the top of the text, as far as shares go -/
structure ShT (Z : Cz) (C : Addr) : Prop where
  cl : Cls Z.K C
  nT : NoAttr Z.K C "own_top"
  nU : NoAttr Z.K C "own_under"
  mgC : Z.mg "Share" = some (.ref C)
  isi : Z.mg "isinstance" = none
  int : Z.mg "int" = none
  bool : Z.mg "bool" = none
  abs : Z.mg "abs" = none
  ha : findIn Z.K (.ref C) "__class__" = some (some (.builtin "object.__class__"))
  hn : specialIn Z.K (.builtin "object.__class__") "__get__" = some (some (.builtin "getset_descriptor.__get__"))
  htk : takesIn Z.K (.builtin "object.__class__") = some true
  hm : mroIn Z.K C (.type "object") = some true
  kCC : kitOne Z.K (.ref C) (.ref C) = some true
  kCI : kitOne Z.K (.ref C) (.type "int") = some false
  kIC : kitOne Z.K (.type "int") (.ref C) = some false
  kTC : ∀ t ∈ ([.type "bool", .type "str", .type "NoneType", .type "list", .type "tuple", .type "dict"] : List Value), kitOne Z.K t (.ref C) = some false
theorem ShT.ty {Z : Cz} {C : Addr} (T : ShT Z C) {H : Hp} {a dx : Addr} {fs : List (Str × V)} (h : H a = some (.ins C dx fs)) : TyX Z.K H (.ref a) (.ref C) := .base (.ins h T.cl T.ha T.hn T.htk T.hm)

section
variable {Z : Cz}

/-- is_integer -/
def spIsInt (K : Frag) : Sp := fun vs H Q _ => ∃ v t, vs = [v] ∧ TyX K H v t ∧ ((t = .type "int" ∧ Q (.bl true) H) ∨ (t = .type "bool" ∧ Q (.bl false) H) ∨ (kitOne K t (.type "int") = some false ∧ Q (.bl false) H))
theorem ok_is_integer {f C : Addr} {fd : FuncData} (F : Fun Z.K "is_integer" "is_integer" s_is_integer f fd) (T : ShT Z C) : Z.ok CX0 1 f fd ["value"] (spIsInt Z.K) := by
  refine F.ok sc_is_integer (fun vs H Q E h => ?_) (fun cdv A outer s H vs Q E hr h => ?_)
  · obtain ⟨v, t, rfl, _⟩ := h
    rfl
  · obtain ⟨v, t, rfl, ty, h⟩ := h
    refine ⟨_, pss_one (ps_ret (pe_and (pe_callB call_isi (by rfl) T.isi (by decide +kernel) (pa_cons (pv 0) (pa_cons (pe_ty "int" (by rfl) T.int (by decide +kernel)) pa_nil)))
      (pe_one (pe_not (pe_callB call_isi (by rfl) T.isi (by decide +kernel) (pa_cons (pv 0) (pa_cons (pe_ty "bool" (by rfl) T.bool (by decide +kernel)) pa_nil))))))), ?_⟩
    rcases h with ⟨rfl, q⟩ | ⟨rfl, q⟩ | ⟨e, q⟩
    · refine ⟨_, rfl, _, _, _, _, true, rfl, .ty "int", ty, kit_ty (by decide +kernel), _, rfl, iteT ?_⟩
      exact ⟨_, rfl, _, _, _, _, false, rfl, .ty "bool", ty, kit_ty (by decide +kernel), _, rfl, q⟩
    · refine ⟨_, rfl, _, _, _, _, true, rfl, .ty "int", ty, kit_ty (by decide +kernel), _, rfl, iteT ?_⟩
      exact ⟨_, rfl, _, _, _, _, true, rfl, .ty "bool", ty, kit_ty (by decide +kernel), _, rfl, q⟩
    · exact ⟨_, rfl, _, _, _, _, false, rfl, .ty "int", ty, e, _, rfl, iteF q⟩

/-- common: the greatest common divisor -/
def spCommon : Sp := fun vs H Q _ => ∃ a b : Int, vs = [.int a, .int b] ∧ Q (.int (Int.gcd a b)) H
theorem ok_common {f C : Addr} {fd : FuncData} (F : Fun Z.K "common" "common" s_common f fd) (T : ShT Z C) : Z.ok CX0 1 f fd ["one", "other"] spCommon := by
  refine F.ok sc_common (fun vs H Q E h => ?_) (fun cdv A outer s H vs Q E hr h => ?_)
  · obtain ⟨a, b, rfl, _⟩ := h
    rfl
  · obtain ⟨a, b, rfl, h⟩ := h
    refine ⟨_, pss_cons (ps_set (i := 0) sc_common.nd rfl (Or.inl rfl) (pe_callB call_abs (by rfl) T.abs (by decide +kernel) (pa_cons (pv 0) pa_nil)))
      (pss_cons (ps_set (i := 1) sc_common.nd rfl (Or.inl rfl) (pe_callB call_abs (by rfl) T.abs (by decide +kernel) (pa_cons (pv 1) pa_nil)))
      (pss_cons (ps_while PassesOwn.never (pt_cmpR op_ne (pv 1) pe_int (nomark _)) (pss_one (ps_par (i := 0) (j := 1) (by rfl) sc_common.nd rfl rfl (by decide) rfl rfl (pa_cons (pv 1) (pa_cons (pe_op op_mod (pv 0) (pv 1)) pa_nil)) (by rfl))))
      (pss_one (ps_ret (pv 0))))), ?_⟩
    refine ⟨_, rfl, _, rfl, _, rfl, _, rfl, ?_⟩
    refine while_by (fun σ H' => ∃ x y : Int, σ = [some (.int x), some (.int y)] ∧ H' = H ∧ 0 ≤ x ∧ 0 ≤ y ∧ Int.gcd x y = Int.gcd a b) (fun σ _ => match σ with | [_, some (.int y)] => y.toNat | _ => 0)
      ⟨_, _, rfl, rfl, ?_, ?_, ?_⟩ (fun σ H1 z => ?_) (fun σ H1 Q Q' m z => ?_)
    · split <;> omega
    · split <;> omega
    · rw [show (if a < 0 then -a else a) = ((a.natAbs : Nat) : Int) by split <;> omega, show (if b < 0 then -b else b) = ((b.natAbs : Nat) : Int) by split <;> omega]
      rfl
    · obtain ⟨x, y, rfl, rfl, hx, hy, e⟩ := z
      refine ⟨_, rfl, rfl, _, rfl, ?_⟩
      by_cases hy0 : y = 0
      · subst hy0
        refine iteNS rfl ?_
        refine ⟨_, rfl, ?_⟩
        have e2 : Int.gcd x 0 = x.natAbs := Int.gcd_zero_right ..
        rw [e2] at e
        rw [← e] at h
        have e3 : ((x.natAbs : Nat) : Int) = x := by omega
        rw [e3] at h
        exact h
      · rw [decide_eq_false (show ¬ V.int y = V.int 0 from fun z => hy0 (V.int.inj z))]
        refine iteT ?_
        refine ⟨_, rfl, _, rfl, _, rfl, _, _, rfl, rfl, (by show (0 : Int) < y; omega), _, _, rfl, ?_⟩
        have h1 := Int.emod_nonneg x hy0
        have h2 := Int.emod_lt_of_pos x (show 0 < y by omega)
        refine ⟨⟨_, _, rfl, rfl, hy, h1, ?_⟩, ?_⟩
        · rw [← e]
          exact gcd_step hx hy
        · show (x % y).toNat < y.toNat
          omega
    · obtain ⟨v, hv, z1, k, hk, z2⟩ := z
      exact ⟨v, hv, z1, k, hk, m _ _ z2⟩

/-- Share.__init__ -/
def spShInit (C : Addr) : Sp := fun vs H Q _ => ∃ (p dx : Addr) (t u : Int), vs = [.ref p, .int t, .int u] ∧ H p = some (.ins C dx []) ∧ u ≠ 0 ∧ u.natAbs < 2 ^ 9000 ∧
  ∀ H' : Hp, (∀ b, b ≠ p → H' b = H b) → H' p = some (.ins C dx (shF (low t u).1 (low t u).2)) → Q .non H'
theorem ok_ShInit {f C : Addr} {fd : FuncData} (F : FunD Z.K "__init__" "Share.__init__" (defArgs s_Share_dd_init) (defBody s_Share_dd_init) (defScope s_Share_dd_init) [.int 1] [] f fd) (T : ShT Z C)
    (c1 : Cal Z CX0 1 "is_integer" ["value"] [] (spIsInt Z.K)) (c2 : Cal Z CX0 1 "common" ["one", "other"] [] spCommon) :
    Z.ok CX0 2 f fd ["self", "top", "under"] (spShInit C) := by
  refine F.ok sc_Share_dd_init (fun vs H Q E h => ?_) (fun cdv A outer s H vs Q E hr h => ?_)
  · obtain ⟨p, dx, t, u, rfl, _⟩ := h
    rfl
  · obtain ⟨p, dx, t, u, rfl, hp, hu, hb, k⟩ := h
    have nd := sc_Share_dd_init.nd
    refine ⟨_, pss_cons (ps_if (PW.pt (pw_or (pt_not (pt_val (pe_cal c1 hr (by rfl) pass0 (pa_cons (pv 1) pa_nil)))) (pw_or (pt_not (pt_val (pe_cal c1 hr (by rfl) pass0 (pa_cons (pv 2) pa_nil)))) (pw_or1 (pt_cmpR op_eq (pv 2) pe_int (nomark _)))))) (pss_one ps_never) pss_nil)
      (pss_cons (ps_set (i := 3) nd rfl (Or.inl rfl) (pe_cal c2 hr (by rfl) pass0 (pa_cons (pv 1) (pa_cons (pv 2) pa_nil))))
      (pss_cons (ps_if (pt_cmpR op_lt (pv 2) pe_int (nomark _)) (pss_one (ps_set (i := 3) nd rfl (Or.inl rfl) (pe_un un_neg (pv 3)))) pss_nil)
      (pss_cons (ps_fld (pv 0) (pe_op op_fdivG (pv 1) (pv 3)) rfl)
      (pss_one (ps_fld (pv 0) (pe_op op_fdivG (pv 2) (pv 3)) rfl))))), ?_⟩
    refine ⟨_, rfl, _, _, rfl, .base (.int _), .inl ⟨rfl, _, rfl, iteF ?_⟩⟩
    refine ⟨_, rfl, _, _, rfl, .base (.int _), .inl ⟨rfl, _, rfl, iteF ?_⟩⟩
    refine ⟨_, rfl, rfl, _, rfl, ?_⟩
    rw [decide_eq_false (show ¬ V.int u = V.int 0 from fun z => hu (V.int.inj z))]
    refine iteF ?_
    refine ⟨_, rfl, _, rfl, _, _, rfl, ?_⟩
    have fin : ∀ (H1 : Hp) (σ : L2.St), H1 = H → σ = [some (.ref p), some (.int t), some (.int u), some (.int (lowG t u))] → (tSeq (sFld Z.K (tVar 0) (tOp (rI CDivG fun i j => .int (i.fdiv j)) (tVar 1) (tVar 3)) "own_top") (sFld Z.K (tVar 0) (tOp (rI CDivG fun i j => .int (i.fdiv j)) (tVar 2) (tVar 3)) "own_under")) { nx := fun _ H' => Q .non H', rt := Q } σ H1 := by
      rintro H1 σ rfl rfl
      have hG : CDivG t (lowG t u) := divG (b := 9000) (lowG_ne hu) (Nat.lt_of_le_of_lt (by rw [lowG_abs]; exact Int.gcd_le_natAbs_right _ hu) hb) (by decide) (Nat.le_refl _)
      refine ⟨_, rfl, _, rfl, _, _, rfl, rfl, hG, _, rfl, p, C, dx, _, rfl, hp, T.cl, T.nT, (by show 0 < 1000; decide), ?_⟩
      refine ⟨_, rfl, _, rfl, _, _, rfl, rfl, hG, _, rfl, p, C, dx, _, rfl, upd_same, T.cl, T.nU, (by show 1 < 1000; decide), ?_⟩
      refine k _ (fun b hb => by rw [upd_ne hb, upd_ne hb]) ?_
      rw [upd_same]
      rfl
    refine ⟨_, rfl, _, _, rfl, rfl, _, rfl, ?_⟩
    by_cases h0 : u < 0
    · rw [decide_eq_true h0]
      refine iteT ?_
      refine ⟨_, rfl, _, rfl, ?_⟩
      refine fin _ _ rfl ?_
      unfold lowG
      rw [if_pos h0]
      rfl
    · rw [decide_eq_false h0]
      refine iteF ?_
      refine fin _ _ rfl ?_
      unfold lowG
      rw [if_neg h0]
      rfl
end
end Ps

/-! Shares: their operators, where nothing is raised. -/
namespace Ps
open PySem PySem.Spec PyProof.Rows PySem.W L2

theorem Same.upd {H : Hp} {p : Addr} {o : HO} (h : H p = none) : Same H (L2.upd H p o) := fun b u e => by
  rw [upd_ne (ne_of_none e h)]
  exact e
/-- Share(t, u): what its reading asks -/
theorem mk_sh {C : Addr} {H : Hp} {Q : VK} {E : XK} {t u : Int} (hu : u ≠ 0) (hb : u.natAbs < 2 ^ 9000) (k : ∀ v H', Same H H' → Sh C H' v (low t u) → Q v H') :
    ∀ x dx, H x = none → H dx = none → dx ≠ x → spShInit C [.ref x, .int t, .int u] (upd (upd H dx (.own x)) x (.ins C dx [])) (fun v H2 => v = .non ∧ Q (.ref x) H2) E := by
  intro x dx hx hdx hne
  refine ⟨x, dx, t, u, rfl, upd_same, hu, hb, fun H' h1 h2 => ⟨rfl, ?_⟩⟩
  refine k _ H' (fun b o e => ?_) ⟨x, dx, rfl, h2⟩
  rw [h1 b (ne_of_none e hx), upd_ne (ne_of_none e hx), upd_ne (ne_of_none e hdx)]
  exact e

/-- what the shares' defs promise one another -/
abbrev CShare (Z : Cz) (C : Addr) : Prop := CalC Z CX0 2 C "Share" ["self", "top", "under"] [] (spShInit C)
abbrev CShare1 (Z : Cz) (C : Addr) : Prop := CalC Z CX0 2 C "Share" ["self", "top", "under"] [.int 1] (spShInit C)
/-- from a number a share -/
def spNum (C : Addr) : Sp := fun vs H Q _ => ∃ v q, vs = [v] ∧ Nb C H v q ∧ ∀ v' H', Same H H' → Sh C H' v' q → Q v' H'
abbrev CNum (Z : Cz) (C : Addr) : Prop := Cal Z CX0 4 "share_of_number" ["value"] [] (spNum C)
/-- two numbers to a share -/
def spBin (C : Addr) (n : Nat) (g : Int × Int → Int × Int → Int × Int) : Sp := fun vs H Q _ => ∃ x y q r, vs = [x, y] ∧ Sh C H x q ∧ Nb C H y r ∧ Sz n q ∧ Sz n r ∧ ∀ v H', Same H H' → Sh C H' v (g q r) → Q v H'
def spUn (C : Addr) (n : Nat) (g : Int × Int → Int × Int) : Sp := fun vs H Q _ => ∃ x q, vs = [x] ∧ Sh C H x q ∧ Sz n q ∧ ∀ v H', Same H H' → Sh C H' v (g q) → Q v H'
def gAdd (q r : Int × Int) : Int × Int := low (q.1 * r.2 + r.1 * q.2) (q.2 * r.2)
def gMul (q r : Int × Int) : Int × Int := low (q.1 * r.1) (q.2 * r.2)
def gNeg (q : Int × Int) : Int × Int := low (-q.1) q.2
def gAbs (q : Int × Int) : Int × Int := low (iabs q.1) q.2

theorem lt_mul {i j : Int} (hi : i.natAbs < 2 ^ 4000) (hj : j.natAbs < 2 ^ 4000) : CMulW i j := wide_mul hi hj (by decide) (by decide) (by decide)
theorem mul_lt {i j : Int} (hi : i.natAbs < 2 ^ 4000) (hj : j.natAbs < 2 ^ 4000) : (i * j).natAbs < 2 ^ 9000 :=
  Nat.lt_of_lt_of_le (wide_lt hi hj) (Nat.pow_le_pow_right (by decide) (by decide))
theorem lt_up {i : Int} {m n : Nat} (h : i.natAbs < 2 ^ m) (hm : m ≤ n) : i.natAbs < 2 ^ n := Nat.lt_of_lt_of_le h (Nat.pow_le_pow_right (by decide) hm)

section
variable {Z : Cz} {f C : Addr} {fd : FuncData}
theorem ok_share_of_number (F : Fun Z.K "share_of_number" "share_of_number" s_share_of_number f fd) (T : ShT Z C) (c1 : Cal Z CX0 1 "is_integer" ["value"] [] (spIsInt Z.K)) (c2 : CShare1 Z C) : Z.ok CX0 4 f fd ["value"] (spNum C) := by
  refine F.ok sc_share_of_number (fun vs H Q E h => ?_) (fun cdv A outer s H vs Q E hr h => ?_)
  · obtain ⟨v, q, rfl, _⟩ := h
    rfl
  · obtain ⟨v, q, rfl, hv, k⟩ := h
    refine ⟨_, pss_cons (ps_if (pt_val (pe_callB call_isi (by rfl) T.isi (by decide +kernel) (pa_cons (pv 0) (pa_cons (pe_glob (v := .ref C) rfl T.mgC rfl) pa_nil)))) (pss_one (ps_ret (pv 0))) pss_nil)
      (pss_cons (ps_if (pt_not (pt_val (pe_cal c1 (hr.mono (by decide)) (by rfl) pass0 (pa_cons (pv 0) pa_nil)))) (pss_one ps_never) pss_nil)
      (pss_one (ps_ret (pe_calC c2 hr (by rfl) pass0 (pa_cons (pv 0) pa_nil))))), ?_⟩
    rcases hv with hv | ⟨i, rfl, rfl⟩
    · obtain ⟨a, dx, rfl, ha⟩ := id hv
      refine ⟨_, rfl, _, _, _, _, true, rfl, .own C, T.ty ha, T.kCC, _, rfl, iteT ?_⟩
      exact ⟨_, rfl, k _ _ (Same.refl _) hv⟩
    · refine ⟨_, rfl, _, _, _, _, false, rfl, .own C, .base (.int _), T.kIC, _, rfl, iteF ?_⟩
      refine ⟨_, rfl, _, _, rfl, .base (.int _), .inl ⟨rfl, _, rfl, iteF ?_⟩⟩
      refine ⟨_, rfl, mk_sh (by decide) (by decide +kernel) fun v' H' e z => k _ _ e ?_⟩
      rw [low_one] at z
      exact z

theorem ok_neg (F : Fun Z.K "__neg__" "Share.__neg__" s_Share_dd_neg f fd) (T : ShT Z C) (c2 : CShare Z C) : Z.ok CX0 4 f fd ["self"] (spUn C 9000 gNeg) := by
  refine F.ok sc_Share_dd_neg (fun vs H Q E h => ?_) (fun cdv A outer s H vs Q E hr h => ?_)
  · obtain ⟨v, q, rfl, _⟩ := h
    rfl
  · obtain ⟨x, q, rfl, ⟨a, dx, rfl, ha⟩, hq, k⟩ := h
    refine ⟨_, pss_one (ps_ret (pe_calC c2 hr (by rfl) pass0 (pa_cons (pe_un un_neg (pe_fld (pv 0) rfl)) (pa_cons (pe_fld (pv 0) rfl) pa_nil)))), ?_⟩
    refine ⟨_, rfl, a, C, dx, _, _, rfl, ha, T.cl, T.nT, shF_top _ _, _, rfl, _, rfl, a, C, dx, _, _, rfl, ha, T.cl, T.nU, shF_under _ _, ?_⟩
    exact mk_sh hq.ne hq.u k
theorem ok_abs (F : Fun Z.K "__abs__" "Share.__abs__" s_Share_dd_abs f fd) (T : ShT Z C) (c2 : CShare Z C) : Z.ok CX0 4 f fd ["self"] (spUn C 9000 gAbs) := by
  refine F.ok sc_Share_dd_abs (fun vs H Q E h => ?_) (fun cdv A outer s H vs Q E hr h => ?_)
  · obtain ⟨v, q, rfl, _⟩ := h
    rfl
  · obtain ⟨x, q, rfl, ⟨a, dx, rfl, ha⟩, hq, k⟩ := h
    refine ⟨_, pss_one (ps_ret (pe_calC c2 hr (by rfl) pass0 (pa_cons (pe_callB call_abs (by rfl) T.abs (by decide +kernel) (pa_cons (pe_fld (pv 0) rfl) pa_nil)) (pa_cons (pe_fld (pv 0) rfl) pa_nil)))), ?_⟩
    refine ⟨_, rfl, a, C, dx, _, _, rfl, ha, T.cl, T.nT, shF_top _ _, _, rfl, _, rfl, a, C, dx, _, _, rfl, ha, T.cl, T.nU, shF_under _ _, ?_⟩
    exact mk_sh hq.ne hq.u k
theorem ok_add (F : Fun Z.K "__add__" "Share.__add__" s_Share_dd_add f fd) (T : ShT Z C) (c1 : CNum Z C) (c2 : CShare Z C) : Z.ok CX0 5 f fd ["self", "other"] (spBin C 4000 gAdd) := by
  refine F.ok sc_Share_dd_add (fun vs H Q E h => ?_) (fun cdv A outer s H vs Q E hr h => ?_)
  · obtain ⟨x, y, q, r, rfl, _⟩ := h
    rfl
  · obtain ⟨x, y, q, r, rfl, hx, hy, hq, hr', k⟩ := h
    refine ⟨_, pss_cons (ps_set (i := 1) sc_Share_dd_add.nd rfl (Or.inl rfl) (pe_cal c1 hr (by rfl) pass0 (pa_cons (pv 1) pa_nil)))
      (pss_one (ps_ret (pe_calC c2 (hr.mono (by decide)) (by rfl) pass0 (pa_cons (pe_op op_add (pe_op op_mulW (pe_fld (pv 0) rfl) (pe_fld (pv 1) rfl)) (pe_op op_mulW (pe_fld (pv 1) rfl) (pe_fld (pv 0) rfl))) (pa_cons (pe_op op_mulW (pe_fld (pv 0) rfl) (pe_fld (pv 1) rfl)) pa_nil))))), ?_⟩
    refine ⟨_, rfl, _, r, rfl, hy, fun y' H1 e1 hy' => ?_⟩
    obtain ⟨a, dx, rfl, ha⟩ := hx.mono e1
    obtain ⟨b, dy, rfl, hb⟩ := id hy'
    refine ⟨_, rfl, a, C, dx, _, _, rfl, ha, T.cl, T.nT, shF_top _ _, _, rfl, b, C, dy, _, _, rfl, hb, T.cl, T.nU, shF_under _ _, _, _, rfl, rfl, lt_mul hq.t hr'.u, ?_⟩
    refine ⟨_, rfl, b, C, dy, _, _, rfl, hb, T.cl, T.nT, shF_top _ _, _, rfl, a, C, dx, _, _, rfl, ha, T.cl, T.nU, shF_under _ _, _, _, rfl, rfl, lt_mul hr'.t hq.u, _, _, rfl, rfl, ?_⟩
    refine ⟨_, rfl, a, C, dx, _, _, rfl, ha, T.cl, T.nU, shF_under _ _, _, rfl, b, C, dy, _, _, rfl, hb, T.cl, T.nU, shF_under _ _, _, _, rfl, rfl, lt_mul hq.u hr'.u, ?_⟩
    exact mk_sh (Int.mul_ne_zero hq.ne hr'.ne) (mul_lt hq.u hr'.u) fun v H' e z => k _ _ (e1.trans e) z
theorem ok_mul (F : Fun Z.K "__mul__" "Share.__mul__" s_Share_dd_mul f fd) (T : ShT Z C) (c1 : CNum Z C) (c2 : CShare Z C) : Z.ok CX0 5 f fd ["self", "other"] (spBin C 4000 gMul) := by
  refine F.ok sc_Share_dd_mul (fun vs H Q E h => ?_) (fun cdv A outer s H vs Q E hr h => ?_)
  · obtain ⟨x, y, q, r, rfl, _⟩ := h
    rfl
  · obtain ⟨x, y, q, r, rfl, hx, hy, hq, hr', k⟩ := h
    refine ⟨_, pss_cons (ps_set (i := 1) sc_Share_dd_mul.nd rfl (Or.inl rfl) (pe_cal c1 hr (by rfl) pass0 (pa_cons (pv 1) pa_nil)))
      (pss_one (ps_ret (pe_calC c2 (hr.mono (by decide)) (by rfl) pass0 (pa_cons (pe_op op_mulW (pe_fld (pv 0) rfl) (pe_fld (pv 1) rfl)) (pa_cons (pe_op op_mulW (pe_fld (pv 0) rfl) (pe_fld (pv 1) rfl)) pa_nil))))), ?_⟩
    refine ⟨_, rfl, _, r, rfl, hy, fun y' H1 e1 hy' => ?_⟩
    obtain ⟨a, dx, rfl, ha⟩ := hx.mono e1
    obtain ⟨b, dy, rfl, hb⟩ := id hy'
    refine ⟨_, rfl, a, C, dx, _, _, rfl, ha, T.cl, T.nT, shF_top _ _, _, rfl, b, C, dy, _, _, rfl, hb, T.cl, T.nT, shF_top _ _, _, _, rfl, rfl, lt_mul hq.t hr'.t, ?_⟩
    refine ⟨_, rfl, a, C, dx, _, _, rfl, ha, T.cl, T.nU, shF_under _ _, _, rfl, b, C, dy, _, _, rfl, hb, T.cl, T.nU, shF_under _ _, _, _, rfl, rfl, lt_mul hq.u hr'.u, ?_⟩
    exact mk_sh (Int.mul_ne_zero hq.ne hr'.ne) (mul_lt hq.u hr'.u) fun v H' e z => k _ _ (e1.trans e) z

def gSub (q r : Int × Int) : Int × Int := gAdd q (gNeg r)
def gBy (q r : Int × Int) : Int × Int := low (q.1 * r.2) (q.2 * r.1)
theorem Sz.neg {n : Nat} {q : Int × Int} (h : Sz n q) : Sz n (gNeg q) := by
  refine ⟨Int.ne_of_gt (low_pos h.ne), Nat.lt_of_le_of_lt (low_le1 h.ne) ?_, Nat.lt_of_le_of_lt (low_le2 h.ne) h.u⟩
  rw [Int.natAbs_neg]
  exact h.t
theorem Sz.up {m n : Nat} {q : Int × Int} (h : Sz m q) (hm : m ≤ n) : Sz n q := ⟨h.ne, lt_up h.t hm, lt_up h.u hm⟩
abbrev CAdd (Z : Cz) (C : Addr) : Prop := CalS Z CX0 5 C "__add__" ["self", "other"] (spBin C 4000 gAdd)
abbrev CMul (Z : Cz) (C : Addr) : Prop := CalS Z CX0 5 C "__mul__" ["self", "other"] (spBin C 4000 gMul)
abbrev CNeg (Z : Cz) (C : Addr) : Prop := CalS Z CX0 4 C "__neg__" ["self"] (spUn C 9000 gNeg)
theorem ok_radd (F : Fun Z.K "__radd__" "Share.__radd__" s_Share_dd_radd f fd) (T : ShT Z C) (c1 : CAdd Z C) (N : NumF Z.K C "add") : Z.ok CX0 6 f fd ["self", "other"] (spBin C 4000 gAdd) := by
  refine F.ok sc_Share_dd_radd (fun vs H Q E h => ?_) (fun cdv A outer s H vs Q E hr h => ?_)
  · obtain ⟨x, y, q, r, rfl, _⟩ := h
    rfl
  · obtain ⟨x, y, q, r, rfl, hx, hy, hq, hr', k⟩ := h
    refine ⟨_, pss_one (ps_ret (pe_op (op_num (op := .Add) c1 N hr pass0) (pv 0) (pv 1))), ?_⟩
    exact ⟨_, rfl, _, rfl, hx.ins, hy.num, _, _, _, _, rfl, hx, hy, hq, hr', k⟩
theorem ok_rmul (F : Fun Z.K "__rmul__" "Share.__rmul__" s_Share_dd_rmul f fd) (T : ShT Z C) (c1 : CMul Z C) (N : NumF Z.K C "mul") : Z.ok CX0 6 f fd ["self", "other"] (spBin C 4000 gMul) := by
  refine F.ok sc_Share_dd_rmul (fun vs H Q E h => ?_) (fun cdv A outer s H vs Q E hr h => ?_)
  · obtain ⟨x, y, q, r, rfl, _⟩ := h
    rfl
  · obtain ⟨x, y, q, r, rfl, hx, hy, hq, hr', k⟩ := h
    refine ⟨_, pss_one (ps_ret (pe_op (op_num (op := .Mult) c1 N hr pass0) (pv 0) (pv 1))), ?_⟩
    exact ⟨_, rfl, _, rfl, hx.ins, hy.num, _, _, _, _, rfl, hx, hy, hq, hr', k⟩
theorem ok_sub (F : Fun Z.K "__sub__" "Share.__sub__" s_Share_dd_sub f fd) (T : ShT Z C) (c1 : CAdd Z C) (c2 : CNum Z C) (c3 : CNeg Z C) (N : NumF Z.K C "add") : Z.ok CX0 6 f fd ["self", "other"] (spBin C 4000 gSub) := by
  refine F.ok sc_Share_dd_sub (fun vs H Q E h => ?_) (fun cdv A outer s H vs Q E hr h => ?_)
  · obtain ⟨x, y, q, r, rfl, _⟩ := h
    rfl
  · obtain ⟨x, y, q, r, rfl, hx, hy, hq, hr', k⟩ := h
    refine ⟨_, pss_one (ps_ret (pe_op (op_num (op := .Add) c1 N hr pass0) (pv 0) (pe_un (un_cal c3 (hr.mono (by decide)) pass0) (pe_cal c2 (hr.mono (by decide)) (by rfl) pass0 (pa_cons (pv 1) pa_nil))))), ?_⟩
    refine ⟨_, rfl, _, rfl, _, r, rfl, hy, fun y' H1 e1 hy' => ⟨hy'.ins, _, _, rfl, hy', hr'.up (by decide), fun y2 H2 e2 hy2 => ?_⟩⟩
    exact ⟨((hx.mono e1).mono e2).ins, .inl hy2.ins, _, _, _, _, rfl, (hx.mono e1).mono e2, .inl hy2, hq, hr'.neg, fun v H' e z => k _ _ ((e1.trans e2).trans e) z⟩
theorem ok_rsub (F : Fun Z.K "__rsub__" "Share.__rsub__" s_Share_dd_rsub f fd) (T : ShT Z C) (c1 : CAdd Z C) (c2 : CNum Z C) (c3 : CNeg Z C) (N : NumF Z.K C "add") : Z.ok CX0 6 f fd ["self", "other"] (spBin C 4000 fun q r => gSub r q) := by
  refine F.ok sc_Share_dd_rsub (fun vs H Q E h => ?_) (fun cdv A outer s H vs Q E hr h => ?_)
  · obtain ⟨x, y, q, r, rfl, _⟩ := h
    rfl
  · obtain ⟨x, y, q, r, rfl, hx, hy, hq, hr', k⟩ := h
    refine ⟨_, pss_one (ps_ret (pe_op (op_num (op := .Add) c1 N hr pass0) (pe_cal c2 (hr.mono (by decide)) (by rfl) pass0 (pa_cons (pv 1) pa_nil)) (pe_un (un_cal c3 (hr.mono (by decide)) pass0) (pv 0)))), ?_⟩
    refine ⟨_, rfl, _, r, rfl, hy, fun y' H1 e1 hy' => ⟨_, rfl, (hx.mono e1).ins, _, _, rfl, hx.mono e1, hq.up (by decide), fun x2 H2 e2 hx2 => ?_⟩⟩
    exact ⟨(hy'.mono e2).ins, .inl hx2.ins, _, _, _, _, rfl, hy'.mono e2, .inl hx2, hr', hq.neg, fun v H' e z => k _ _ ((e1.trans e2).trans e) z⟩
/-- by: the other is not 0 -/
def spBy (C : Addr) : Sp := fun vs H Q _ => ∃ x y q r, vs = [x, y] ∧ Sh C H x q ∧ Nb C H y r ∧ Sz 4000 q ∧ Sz 4000 r ∧ r.1 ≠ 0 ∧ ∀ v H', Same H H' → Sh C H' v (gBy q r) → Q v H'
theorem ok_by (F : Fun Z.K "by" "Share.by" s_Share_by f fd) (T : ShT Z C) (c1 : CNum Z C) (c2 : CShare Z C) : Z.ok CX0 5 f fd ["self", "other"] (spBy C) := by
  refine F.ok sc_Share_by (fun vs H Q E h => ?_) (fun cdv A outer s H vs Q E hr h => ?_)
  · obtain ⟨x, y, q, r, rfl, _⟩ := h
    rfl
  · obtain ⟨x, y, q, r, rfl, hx, hy, hq, hr', hn, k⟩ := h
    refine ⟨_, pss_cons (ps_set (i := 1) sc_Share_by.nd rfl (Or.inl rfl) (pe_cal c1 hr (by rfl) pass0 (pa_cons (pv 1) pa_nil)))
      (pss_cons (ps_if (pt_cmpR op_eq (pe_fld (pv 1) rfl) pe_int (nomark _)) (pss_one ps_never) pss_nil)
      (pss_one (ps_ret (pe_calC c2 (hr.mono (by decide)) (by rfl) pass0 (pa_cons (pe_op op_mulW (pe_fld (pv 0) rfl) (pe_fld (pv 1) rfl)) (pa_cons (pe_op op_mulW (pe_fld (pv 0) rfl) (pe_fld (pv 1) rfl)) pa_nil)))))), ?_⟩
    refine ⟨_, rfl, _, r, rfl, hy, fun y' H1 e1 hy' => ?_⟩
    obtain ⟨a, dx, rfl, ha⟩ := hx.mono e1
    obtain ⟨b, dy, rfl, hb⟩ := id hy'
    refine ⟨_, rfl, b, C, dy, _, _, rfl, hb, T.cl, T.nT, shF_top _ _, rfl, _, rfl, ?_⟩
    rw [decide_eq_false (show ¬ V.int r.1 = V.int 0 from fun z => hn (V.int.inj z))]
    refine iteF ?_
    refine ⟨_, rfl, a, C, dx, _, _, rfl, ha, T.cl, T.nT, shF_top _ _, _, rfl, b, C, dy, _, _, rfl, hb, T.cl, T.nU, shF_under _ _, _, _, rfl, rfl, lt_mul hq.t hr'.u, ?_⟩
    refine ⟨_, rfl, a, C, dx, _, _, rfl, ha, T.cl, T.nU, shF_under _ _, _, rfl, b, C, dy, _, _, rfl, hb, T.cl, T.nT, shF_top _ _, _, _, rfl, rfl, lt_mul hq.u hr'.t, ?_⟩
    exact mk_sh (Int.mul_ne_zero hq.ne hn) (mul_lt hq.u hr'.t) fun v H' e z => k _ _ (e1.trans e) z
/-- a field, or what is reckoned of a share -/
def spGet (C : Addr) (n : Nat) (g : Int × Int → V) : Sp := fun vs H Q _ => ∃ x q, vs = [x] ∧ Sh C H x q ∧ Sz n q ∧ Q (g q) H
theorem ok_top (F : Fun Z.K "top" "Share.top" s_Share_top f fd) (T : ShT Z C) : Z.ok CX0 1 f fd ["self"] (spGet C 9000 fun q => .int q.1) := by
  refine F.ok sc_Share_top (fun vs H Q E h => ?_) (fun cdv A outer s H vs Q E hr h => ?_)
  · obtain ⟨x, q, rfl, _⟩ := h
    rfl
  · obtain ⟨x, q, rfl, ⟨a, dx, rfl, ha⟩, hq, k⟩ := h
    exact ⟨_, pss_one (ps_ret (pe_fld (pv 0) rfl)), _, rfl, a, C, dx, _, _, rfl, ha, T.cl, T.nT, shF_top _ _, k⟩
theorem ok_under (F : Fun Z.K "under" "Share.under" s_Share_under f fd) (T : ShT Z C) : Z.ok CX0 1 f fd ["self"] (spGet C 9000 fun q => .int q.2) := by
  refine F.ok sc_Share_under (fun vs H Q E h => ?_) (fun cdv A outer s H vs Q E hr h => ?_)
  · obtain ⟨x, q, rfl, _⟩ := h
    rfl
  · obtain ⟨x, q, rfl, ⟨a, dx, rfl, ha⟩, hq, k⟩ := h
    exact ⟨_, pss_one (ps_ret (pe_fld (pv 0) rfl)), _, rfl, a, C, dx, _, _, rfl, ha, T.cl, T.nU, shF_under _ _, k⟩
end
end Ps

/-! The law's own draws: numbers within bounds. -/
namespace Ps
open PySem PySem.Spec PyProof.Rows PySem.W L2

/-- built-in names that the law uses -/
structure DrT (Z : Cz) : Prop where
  int : Z.mg "int" = none
  len : Z.mg "len" = none
  range : Z.mg "range" = none
  max : Z.mg "max" = none
  min : Z.mg "min" = none
def Below (ms ns : List Int) : Prop := ms.length = ns.length ∧ ∀ (i : Nat) (m n : Int), ms[i]? = some m → ns[i]? = some n → 0 ≤ m ∧ m < n
theorem Below.nil : Below [] [] := ⟨rfl, fun i m n h _ => by simp at h⟩
theorem Below.snoc {ms ns : List Int} {m n : Int} (h : Below ms ns) (h0 : 0 ≤ m) (h1 : m < n) : Below (ms ++ [m]) (ns ++ [n]) := by
  refine ⟨by rw [List.length_append, List.length_append, h.1]; rfl, fun i a b ha hb => ?_⟩
  by_cases hi : i < ms.length
  · rw [List.getElem?_append_left hi] at ha
    rw [List.getElem?_append_left (by rw [← h.1]; exact hi)] at hb
    exact h.2 i a b ha hb
  · rw [List.getElem?_append_right (by omega)] at ha
    rw [List.getElem?_append_right (by rw [← h.1]; omega)] at hb
    rw [← h.1] at hb
    cases e : i - ms.length with
    | zero =>
      rw [e] at ha hb
      simp at ha hb
      subst ha; subst hb
      exact ⟨h0, h1⟩
    | succ j =>
      rw [e] at ha
      simp at ha
theorem take_snoc {ns : List Int} {i : Nat} {n : Int} (h : ns[i]? = some n) : ns.take (i + 1) = ns.take i ++ [n] := by
  rw [List.take_succ, h]
  rfl
/-- sizes that may be drawn by -/
structure Sizes (ns : List Int) : Prop where
  len : ns.length ≤ 10000
  pos : ∀ n ∈ ns, 0 < n ∧ n < 1073741824
def spNumbers (K : Frag) : Sp := fun vs H Q _ => ∃ (c s : Int) (a : Addr) (ns : List Int), vs = [.int c, .int s, .ref a] ∧ SqL K H a (ns.map V.int) ∧ Sizes ns ∧ 0 ≤ s ∧ s ≤ 1000 ∧
  ∀ p H' ms, Same H H' → H p = none → H' p = some (.lst (ms.map V.int)) → Below ms ns → Q (.ref p) H'
theorem small1000' {n : Nat} (h : n ≤ 100000) : n < sizeLine := Nat.lt_of_le_of_lt h (by decide)
theorem pow_ok {i j : Int} (h0 : 0 ≤ j) (h1 : j ≤ 1000000) (h2 : i.natAbs < 2 ^ 64) : L2.CPow i j := ⟨h0, h1, h2⟩
section
variable {Z : Cz} {f : Addr} {fd : FuncData}
theorem ok_numbers (F : Fun Z.K "_law_numbers" "_law_numbers" s_lw_numbers f fd) (T : DrT Z) : Z.ok CX0 1 f fd ["_law_cell_here", "_law_salt", "_law_sizes"] (spNumbers Z.K) := by
  refine F.ok sc_lw_numbers (fun vs H Q E h => ?_) (fun cdv A outer s H vs Q E hr h => ?_)
  · obtain ⟨c, s, a, ns, rfl, _⟩ := h
    rfl
  · obtain ⟨c, sa, a, ns, rfl, hS, hz, hs0, hs1, k⟩ := h
    have nd := sc_lw_numbers.nd
    refine ⟨_, (pss_cons (ps_set (i := 3) sc_lw_numbers.nd rfl (Or.inl rfl) (pe_callB (call_max2 rfl) (by rfl) T.max (by decide +kernel) (pa_cons (pe_int1 (by rfl) T.int (pv 0)) (pa_cons (pe_int1 (by rfl) T.int (pe_op op_sub (pe_un un_neg pe_int) (pv 0))) pa_nil))))
      (pss_cons (ps_set (i := 4) sc_lw_numbers.nd rfl (Or.inl rfl) (pv 3))
      (pss_cons (ps_set (i := 5) sc_lw_numbers.nd rfl (Or.inl rfl) (pe_lst pa_nil))
      (pss_cons (ps_for PassesOwn.never rfl (pi_range1 (by rfl) T.range (pa_cons (pe_callB call_len_seq (by rfl) T.len PySem.boot_len (pa_cons (pv 2) pa_nil)) pa_nil)) (pg_name (i := 6) sc_lw_numbers.nd rfl (Or.inl rfl))
      (pss_one (ps_if (PW.pt (pw_and (pt_cmpR op_ge (pv 3) (pe_op op_pow pe_int pe_int) (nomark _)) (pw_and1 (pt_cmpR op_gt (pv 4) pe_int (nomark _)))))
        (pss_cons (ps_expr (pe_bm PySem.F.plainAttrs_list PySem.F.slot_list_append PySem.F.type_list_append mt_append (pv 5) (pa_cons (pe_op op_mod (pe_int1 (by rfl) T.int (pv 4)) (pe_ix ix_list (pv 2) (pv 6) (fun _ _ => rfl))) pa_nil)))
          (pss_one (ps_set (i := 4) sc_lw_numbers.nd rfl (Or.inl rfl) (pe_op op_fdiv (pv 4) (pe_ix ix_list (pv 2) (pv 6) (fun _ _ => rfl))))))
        (pss_cons (ps_set (i := 7) sc_lw_numbers.nd rfl (Or.inl rfl) (pe_op op_pow (pe_op op_add (pe_op op_add (pe_op op_mod (pe_int1 (by rfl) T.int (pv 3)) pe_int) (pe_op op_mul pe_int (pv 1))) pe_int) pe_int))
          (pss_cons (ps_set (i := 7) sc_lw_numbers.nd rfl (Or.inl rfl) (pe_op op_mul (pe_op op_add (pe_op op_mod (pe_int1 (by rfl) T.int (pv 7)) pe_int) (pe_op op_mul pe_int (pe_op op_add (pv 6) pe_int))) (pe_op op_add (pv 6) pe_int)))
          (pss_cons (ps_set (i := 7) sc_lw_numbers.nd rfl (Or.inl rfl) (pe_op op_mod (pe_int1 (by rfl) T.int (pv 7)) pe_int))
          (pss_cons (ps_set (i := 7) sc_lw_numbers.nd rfl (Or.inl rfl) (pe_op op_mul (pe_op op_mod (pe_int1 (by rfl) T.int (pe_op op_pow (pv 7) pe_int)) pe_int) pe_int))
          (pss_cons (ps_set (i := 7) sc_lw_numbers.nd rfl (Or.inl rfl) (pe_op op_mod (pe_int1 (by rfl) T.int (pv 7)) pe_int))
          (pss_one (ps_expr (pe_bm PySem.F.plainAttrs_list PySem.F.slot_list_append PySem.F.type_list_append mt_append (pv 5) (pa_cons (pe_op op_mod (pe_int1 (by rfl) T.int (pe_op op_fdiv (pv 7) pe_int)) (pe_ix ix_list (pv 2) (pv 6) (fun _ _ => rfl))) pa_nil))))))))))))
      (pss_one (ps_ret (pv 5))))))), ?_⟩
    refine ⟨_, rfl, _, rfl, _, rfl, _, rfl, _, _, rfl, rfl, _, rfl, _, _, rfl, ?_⟩
    generalize (if (-1 - c : Int) > c then (-1 - c : Int) else c) = wh
    refine ⟨_, rfl, ?_⟩
    refine ⟨by decide, fun p hp => ?_⟩
    have e0 : Same H (upd H p (.lst [])) := fun b o e => by rw [upd_ne (ne_of_none e hp)]; exact e
    have hln : (ns.map V.int).length = ns.length := List.length_map ..
    have hl := hz.len
    refine ⟨_, rfl, a, _, rfl, .inl (e0.seq hS), _, rfl, by omega, by omega, for_range (lo := 0) (fun i σ H1 => ∃ (l : Int) (ms : List Int) (o k : Option V), σ = [some (.int c), some (.int sa), some (.ref a), some (.int wh), some (.int l), some (.ref p), k, o] ∧ Same H H1 ∧ H1 p = some (.lst (ms.map V.int)) ∧ Below ms (ns.take i))
      ⟨wh, [], none, none, rfl, e0, upd_same, Below.nil⟩ ?_ ?_⟩
    · rintro i σ H1 hi ⟨l, ms, o, k', rfl, e1, h1, hb⟩
      have hi' : i < ns.length := by omega
      obtain ⟨n, hn⟩ : ∃ n, ns[i]? = some n := ⟨ns[i], List.getElem?_eq_getElem hi'⟩
      have hnp := hz.pos n (List.mem_of_getElem? hn)
      have hat : atI (ns.map V.int) (0 + (i : Int)) = some (.int n) := by
        rw [Int.zero_add]
        exact atI_nat (by rw [List.getElem?_map, hn]; rfl)
      have hml : ms.length ≤ 10000 := by
        rw [hb.1, List.length_take]; omega
      have fin : ∀ (m l' : Int) (o' k2 : Option V), 0 ≤ m → m < n → ∃ (l : Int) (ms' : List Int) (o k : Option V), [some (V.int c), some (.int sa), some (.ref a), some (.int wh), some (.int l'), some (.ref p), k2, o'] = [some (.int c), some (.int sa), some (.ref a), some (.int wh), some (.int l), some (.ref p), k, o] ∧
          Same H (upd H1 p (.lst (ms.map V.int ++ [.int m]))) ∧ (upd H1 p (.lst (ms.map V.int ++ [.int m]))) p = some (.lst (ms'.map V.int)) ∧ Below ms' (ns.take (i + 1)) := by
        intro m l' o' k2 h0 h2
        refine ⟨l', ms ++ [m], o', k2, rfl, fun b o e => ?_, ?_, ?_⟩
        · rw [upd_ne (ne_of_none e hp)]
          exact e1 b o e
        · rw [upd_same, List.map_append]
          rfl
        · rw [take_snoc hn]
          exact hb.snoc h0 h2
      have hml' : (ms.map V.int).length < sizeLine := by rw [List.length_map]; exact small1000' (by omega)
      have hS1 := e1.seq hS
      have hm2 : ∀ z : Int, 0 ≤ z % n ∧ z % n < n := fun z => ⟨Int.emod_nonneg _ (by omega), Int.emod_lt_of_pos _ hnp.1⟩
      refine ⟨_, rfl, _, _, rfl, rfl, pow_ok (by decide) (by decide) (by decide), _, _, rfl, rfl, _, rfl, iteD (fun _ => ?_) (fun _ => ?_)⟩
      · refine ⟨_, rfl, _, _, rfl, rfl, _, rfl, iteD (fun _ => ?_) (fun _ => ?_)⟩
        · refine ⟨_, rfl, .inl ⟨rfl, _, SqL.of h1⟩, _, rfl, _, rfl, _, rfl, _, rfl, a, _, _, _, rfl, rfl, hS1, hat, _, _, rfl, rfl, hnp.1, p, _, _, rfl, rfl, h1, hml', ?_⟩
          have hS2 : SqL Z.K (upd H1 p (.lst (ms.map V.int ++ [.int (l % n)]))) a (ns.map V.int) := by
            obtain ⟨_, _, _, _, _, e2, _, _⟩ := fin (l % n) l o none (hm2 l).1 (hm2 l).2
            exact e2.seq hS
          refine ⟨_, rfl, _, rfl, _, rfl, a, _, _, _, rfl, rfl, hS2, hat, _, _, rfl, rfl, ⟨hnp.1, hnp.2⟩, ?_⟩
          exact fin _ _ _ _ (hm2 l).1 (hm2 l).2
        · refine ⟨_, rfl, _, rfl, _, _, rfl, rfl, (by show (0 : Int) < 2147483629; decide), _, rfl, _, _, rfl, rfl, .inl ⟨by decide, by decide⟩, _, _, rfl, rfl, _, _, rfl, rfl, _, _, rfl, rfl, pow_ok (by decide) (by decide) (by omega), ?_⟩
          refine ⟨_, rfl, _, rfl, _, _, rfl, rfl, (by show (0 : Int) < 2147483647; decide), _, rfl, _, _, rfl, rfl, _, _, rfl, rfl, .inl ⟨by decide, by decide⟩, _, _, rfl, rfl, _, rfl, _, _, rfl, rfl, _, _, rfl, rfl, .inr ⟨by omega, by omega⟩, ?_⟩
          refine ⟨_, rfl, _, rfl, _, _, rfl, rfl, (by show (0 : Int) < 2147483629; decide), ?_⟩
          refine ⟨_, rfl, _, _, rfl, rfl, pow_ok (by decide) (by decide) (by omega), _, rfl, _, _, rfl, rfl, (by show (0 : Int) < 2147483647; decide), _, _, rfl, rfl, .inr ⟨by decide, by decide⟩, ?_⟩
          refine ⟨_, rfl, _, rfl, _, _, rfl, rfl, (by show (0 : Int) < 2147483629; decide), ?_⟩
          refine ⟨_, rfl, .inl ⟨rfl, _, SqL.of h1⟩, _, rfl, _, _, rfl, rfl, ⟨by decide, by decide⟩, _, rfl, _, rfl, _, rfl, a, _, _, _, rfl, rfl, hS1, hat, _, _, rfl, rfl, hnp.1, p, _, _, rfl, rfl, h1, hml', ?_⟩
          exact fin _ _ _ _ (hm2 _).1 (hm2 _).2
      · refine ⟨_, rfl, _, rfl, _, _, rfl, rfl, (by show (0 : Int) < 2147483629; decide), _, rfl, _, _, rfl, rfl, .inl ⟨by decide, by decide⟩, _, _, rfl, rfl, _, _, rfl, rfl, _, _, rfl, rfl, pow_ok (by decide) (by decide) (by omega), ?_⟩
        refine ⟨_, rfl, _, rfl, _, _, rfl, rfl, (by show (0 : Int) < 2147483647; decide), _, rfl, _, _, rfl, rfl, _, _, rfl, rfl, .inl ⟨by decide, by decide⟩, _, _, rfl, rfl, _, rfl, _, _, rfl, rfl, _, _, rfl, rfl, .inr ⟨by omega, by omega⟩, ?_⟩
        refine ⟨_, rfl, _, rfl, _, _, rfl, rfl, (by show (0 : Int) < 2147483629; decide), ?_⟩
        refine ⟨_, rfl, _, _, rfl, rfl, pow_ok (by decide) (by decide) (by omega), _, rfl, _, _, rfl, rfl, (by show (0 : Int) < 2147483647; decide), _, _, rfl, rfl, .inr ⟨by decide, by decide⟩, ?_⟩
        refine ⟨_, rfl, _, rfl, _, _, rfl, rfl, (by show (0 : Int) < 2147483629; decide), ?_⟩
        refine ⟨_, rfl, .inl ⟨rfl, _, SqL.of h1⟩, _, rfl, _, _, rfl, rfl, ⟨by decide, by decide⟩, _, rfl, _, rfl, _, rfl, a, _, _, _, rfl, rfl, hS1, hat, _, _, rfl, rfl, hnp.1, p, _, _, rfl, rfl, h1, hml', ?_⟩
        exact fin _ _ _ _ (hm2 _).1 (hm2 _).2
    · rintro σ H1 ⟨l, ms, o, k', rfl, e1, h1, hb⟩
      refine ⟨_, rfl, k p H1 ms e1 hp h1 ?_⟩
      rw [hln, Int.toNat_natCast, List.take_length] at hb
      exact hb
/-- a pool at p: its numbers at q, the place of the next one -/
structure Pool (H : Hp) (p q : Addr) (ms : List Int) (i : Nat) : Prop where
  at_ : H p = some (.lst [.ref q, .int i])
  nums : H q = some (.lst (ms.map V.int))
  len : ms.length ≤ 10000
  few : i ≤ 100000
theorem Pool.ne {H : Hp} {p q : Addr} {ms : List Int} {i : Nat} (h : Pool H p q ms i) : p ≠ q := ne_of h.at_ h.nums (by
  intro z
  have z := HO.lst.inj z
  cases ms with
  | nil => cases z
  | cons m r =>
    rw [List.map_cons] at z
    cases (List.cons.inj z).1)
theorem rep420 (k : Nat) : (List.replicate k [V.int 420]).flatten = (List.replicate k (420 : Int)).map V.int := by
  induction k with
  | zero => rfl
  | succ k ih => rw [List.replicate_succ, List.flatten_cons, ih, List.replicate_succ]; rfl
def spPool : Sp := fun vs H Q _ => ∃ (c s n : Int), vs = [.int c, .int s, .int n] ∧ 0 ≤ s ∧ s ≤ 1000 ∧ 0 ≤ n ∧ n ≤ 10000 ∧
  ∀ p q H' ms, Same H H' → H p = none → H q = none → Pool H' p q ms 0 → Q (.ref p) H'
theorem ok_pool (F : Fun Z.K "_law_pool" "_law_pool" s_lw_pool f fd) (T : DrT Z) (c_lw_numbers : Cal Z CX0 1 "_law_numbers" ["_law_cell_here", "_law_salt", "_law_sizes"] [] (spNumbers Z.K)) : Z.ok CX0 2 f fd ["_law_cell_here", "_law_salt", "_law_many"] spPool := by
  refine F.ok sc_lw_pool (fun vs H Q E h => ?_) (fun cdv A outer s H vs Q E hr h => ?_)
  · obtain ⟨c, s, n, rfl, _⟩ := h
    rfl
  · obtain ⟨c, sa, n, rfl, hs0, hs1, hn0, hn1, k⟩ := h
    refine ⟨_, (pss_one (ps_ret (pe_lst (pa_cons (pe_cal c_lw_numbers (hr.mono (by decide)) (by rfl) pass0 (pa_cons (pv 0) (pa_cons (pv 1) (pa_cons (pe_op op_rep (pe_lst (pa_cons pe_int pa_nil)) (pv 2)) pa_nil)))) (pa_cons pe_int pa_nil))))), ?_⟩
    refine ⟨_, rfl, _, rfl, by decide, fun l hl => ?_⟩
    refine ⟨_, rfl, l, n, _, rfl, rfl, upd_same, by omega, by omega, ?_, fun l2 hl2 => ?_⟩
    · show 1 * n.toNat ≤ sizeLine
      rw [Nat.one_mul]
      exact Nat.le_of_lt (small1000' (by omega))
    have e1 : Same H (upd (upd H l (.lst [.int 420])) l2 (.lst (List.replicate n.toNat [V.int 420]).flatten)) := fun b o e => by
      have := e
      rw [upd_ne, upd_ne (ne_of_none e hl)]
      · exact e
      · intro z
        subst z
        rw [upd_ne (ne_of_none e hl), e] at hl2
        cases hl2
    refine ⟨c, sa, l2, List.replicate n.toNat 420, rfl, SqL.of (by rw [upd_same, rep420]), ⟨?_, ?_⟩, hs0, hs1, fun q H2 ms e2 hq h2 hb => ?_⟩
    · rw [List.length_replicate]; omega
    · intro x hx
      rw [(List.mem_replicate.mp hx).2]
      decide
    have e3 := e1.trans e2
    refine ⟨Nat.le_of_lt (small1000' (show 2 ≤ 100000 by decide)), fun p hp => ?_⟩
    have hqn : H q = none := e1.free hq
    have hne : q ≠ p := ne_of_none h2 hp
    refine k p q _ ms (fun b o e => ?_) (e3.free hp) hqn ⟨upd_same, by rw [upd_ne hne]; exact h2, ?_, by decide⟩
    · rw [upd_ne (ne_of_none (e3 b o e) hp)]
      exact e3 b o e
    · rw [hb.1, List.length_replicate]; omega
/-- a draw -/
def spDraw : Sp := fun vs H Q _ => ∃ (p q : Addr) (ms : List Int) (i : Nat) (n : Int), vs = [.ref p, .int n] ∧ Pool H p q ms i ∧ 0 < n ∧ i < 100000 ∧
  ∀ r H', 0 ≤ r → r < n → (∀ b, b ≠ p → H' b = H b) → Pool H' p q ms (i + 1) → Q (.int r) H'
theorem ok_draw (F : Fun Z.K "_law_draw" "_law_draw" s_lw_draw f fd) (T : DrT Z) : Z.ok CX0 1 f fd ["_law_pool_here", "_law_many"] spDraw := by
  refine F.ok sc_lw_draw (fun vs H Q E h => ?_) (fun cdv A outer s H vs Q E hr h => ?_)
  · obtain ⟨p, q, ms, i, n, rfl, _⟩ := h
    rfl
  · obtain ⟨p, q, ms, i, n, rfl, hP, hn, hi, k⟩ := h
    refine ⟨_, (pss_cons (ps_set (i := 2) sc_lw_draw.nd rfl (Or.inl rfl) (pe_ix ix_list (pv 0) pe_int (fun _ _ => rfl)))
      (pss_cons (ps_asg (pe_op op_add (pv 2) pe_int) (pg_sub (pv 0) pe_int set_list))
      (pss_one (ps_ret (pe_ifExp (pt_cmpR op_lt (pv 2) (pe_callB call_len_seq (by rfl) T.len PySem.boot_len (pa_cons (pe_ix ix_list (pv 0) pe_int (fun _ _ => rfl)) pa_nil)) (nomark _)) (pe_op op_mod (pe_int1 (by rfl) T.int (pe_ix ix_list (pe_ix ix_list (pv 0) pe_int (fun _ _ => rfl)) (pv 2) (fun _ _ => rfl))) (pv 1)) pe_int))))), ?_⟩
    refine ⟨_, rfl, p, _, _, _, rfl, rfl, SqL.of hP.at_, rfl, ?_⟩
    refine ⟨_, rfl, _, _, rfl, rfl, _, rfl, p, _, _, 1, rfl, rfl, hP.at_, rfl, ?_⟩
    have hP2 : Pool (upd H p (.lst [.ref q, .int ((i : Int) + 1)])) p q ms (i + 1) := ⟨by rw [upd_same, show ((i + 1 : Nat) : Int) = (i : Int) + 1 by omega], by rw [upd_ne hP.ne.symm]; exact hP.nums, hP.len, hi⟩
    have hsame : ∀ b, b ≠ p → (upd H p (.lst [.ref q, .int ((i : Int) + 1)])) b = H b := fun b hb => upd_ne hb
    refine ⟨_, rfl, _, rfl, p, _, _, _, rfl, rfl, SqL.of upd_same, rfl, q, _, rfl, .inl (SqL.of hP2.nums), _, _, rfl, rfl, _, rfl, iteD (fun hlt => ?_) (fun hge => ?_)⟩
    · rw [List.length_map] at hlt
      have hlt' : i < ms.length := by omega
      refine ⟨_, rfl, p, _, _, _, rfl, rfl, SqL.of upd_same, rfl, _, rfl, q, _, _, V.int ms[i], rfl, rfl, SqL.of hP2.nums, ?_, _, rfl, _, rfl, _, _, rfl, rfl, hn, ?_⟩
      · exact atI_nat (by rw [List.getElem?_map, List.getElem?_eq_getElem hlt']; rfl)
      · exact k _ _ (Int.emod_nonneg _ (by omega)) (Int.emod_lt_of_pos _ hn) hsame hP2
    · exact k 0 _ (Int.le_refl 0) hn hsame hP2
/-- the pool of the script's k-th cell -/
def spOpened (K : Frag) : Sp := fun vs H Q _ => ∃ (a : Addr) (ns : List Int) (i : Nat) (n : Int), vs = [.ref a, .int i, .int n] ∧ SqL K H a (ns.map V.int) ∧ (i < ns.length ∨ (ns = [] ∧ i = 0)) ∧ i ≤ 1000 ∧ 0 ≤ n ∧ n ≤ 10000 ∧
  ∀ p q H' ms, Same H H' → H p = none → H q = none → Pool H' p q ms 0 → Q (.ref p) H'
theorem DpAll.ints {K : Frag} {H : Hp} : ∀ ns : List Int, DpAll K H (ns.map V.int) (ns.map PyData.int)
  | [] => .nil
  | n :: r => .cons (.int n) (DpAll.ints r)
theorem shaped_ints (ns : List Int) : SeqAt.shaped (.list (ns.map PyData.int)) = true := ke_shaped_ints ns
theorem ok_opened (F : Fun Z.K "_law_opened" "_law_opened" s_lw_opened f fd) (T : DrT Z) (c_lw_pool : Cal Z CX0 2 "_law_pool" ["_law_cell_here", "_law_salt", "_law_many"] [] spPool) : Z.ok CX0 3 f fd ["_law_script", "_law_k", "_law_many"] (spOpened Z.K) := by
  refine F.ok sc_lw_opened (fun vs H Q E h => ?_) (fun cdv A outer s H vs Q E hr h => ?_)
  · obtain ⟨a, ns, i, n, rfl, _⟩ := h
    rfl
  · obtain ⟨a, ns, i, n, rfl, hS, hi, hi2, hn0, hn1, k⟩ := h
    refine ⟨_, (pss_cons (ps_set (i := 3) sc_lw_opened.nd rfl (Or.inl rfl) (pe_ifExp (pt_cmpR (op_neD hr.units) (pv 0) (pe_lst pa_nil) (nomark _)) (pe_ix ix_list (pv 0) (pv 1) (fun _ _ => rfl)) pe_int))
      (pss_one (ps_ret (pe_cal c_lw_pool (hr.mono (by decide)) (by rfl) pass0 (pa_cons (pv 3) (pa_cons (pv 1) (pa_cons (pv 2) pa_nil))))))), ?_⟩
    refine ⟨_, rfl, by decide, fun l hl => ?_⟩
    have e1 : Same H (upd H l (.lst [])) := fun b o e => by rw [upd_ne (ne_of_none e hl)]; exact e
    refine ⟨_, _, .lst (e1.seq hS) (DpAll.ints ns), .lst (SqL.of upd_same) .nil, shaped_ints ns, rfl, _, rfl, ?_⟩
    have fin : ∀ c : Int, spPool [.int c, .int i, .int n] (upd H l (.lst [])) Q E0 := fun c =>
      ⟨c, i, n, rfl, by omega, by omega, hn0, hn1, fun p q H' ms e hp hq P => k p q H' ms (e1.trans e) (e1.free hp) (e1.free hq) P⟩
    cases ns with
    | nil =>
      refine iteF ?_
      exact ⟨_, rfl, _, rfl, _, rfl, fin 7⟩
    | cons x r =>
      refine iteT ?_
      have hlt : i < (x :: r).length := by
        rcases hi with h | h
        · exact h
        · cases h.1
      refine ⟨_, rfl, _, rfl, a, _, _, V.int (x :: r)[i], rfl, rfl, e1.seq hS, atI_nat (by rw [List.getElem?_map, List.getElem?_eq_getElem hlt]; rfl), _, rfl, _, rfl, _, rfl, fin _⟩
end
end Ps

/-! Own comparisons: an own instance on the left, anything on the right; an int on the left, an own instance on the right; != by ==; x op= y without an own in-place method. -/
namespace Ps
open PySem PySem.Spec PyProof.Rows PySem.W L2

section
variable {prog : Program} {w : World} {A : Around} {E : Value → Shared → Prop} {s : Shared} {K : Frag} {x C L f : Addr} {h₀ : Heap} {m : Str → Option Value} {ox : Obj} {od : Option Obj} {b tb : Value}

theorem ifBound_objNe {M : Model} {args : List Value} {Q : Option Value → Shared → Prop} (X : K.In s.heap) (I : InstAt s.heap x ox C od) (hs : findIn K (.ref C) "__ne__" = some (some (.builtin "object.__ne__")))
    (h : wpAny M A (call (.builtin "object.__ne__") (.ref x :: args)) (fun v => Q (some v)) E s) : wpAny M A (callSpecialIfBound? (.ref x) "__ne__" args) Q E s := by
  simp only [callSpecialIfBound?, bindSpecialIfBound?]
  refine wpAny_holding (wpAny_bind (wpAny_bind (wpAny_bind (I.type.here ((looks_findIn X hs).here ?_)))))
  refine wpAny_bind (wpAny_askSetting (wpAny_ite ?_))
  have fin : wpAny M A (call (.builtin "object.__ne__") ([.ref x] ++ args) >>= fun v => pure (some v)) Q E s := wpAny_bind (wpAny_mono h (fun v s' h' => wpAny_pure h') fun _ _ h' => h')
  split
  · exact wpAny_bind (wpAny_of_eq (F.cmp_object.ne.bind _) (wpAny_pure (by exact fin)))
  · exact wpAny_tryCatch (wpAny_bind (wpAny_of_eq (F.cmp_object.ne.bind _) (wpAny_pure (by exact fin))))
theorem objNe_entry {Q : Fin → Shared → Prop} (hu : A.units < cLine) (X : K.In s.heap) (I : InstAt s.heap x ox C od) (hs : findIn K (.ref C) "__eq__" = some (some (.ref f))) (hf : isFn K (.ref f) = true)
    (h : wpAny (model prog w) A (call (.ref f) [.ref x, b]) (fun v s' => ∃ r, v = .bool r ∧ Q (.done (.ret (.bool (!r)))) s') E s) : wpAny (model prog w) A (Builtin.«object.__ne__» ⟨[.ref x, b], []⟩) Q E s := by
  unfold Builtin.«object.__ne__»
  refine wpAny_bind (m := slotArgs "__ne__" 1 _) (wpAny_pure ?_)
  show wpAny _ _ (cRoomFor "comparison" [.ref x, b] >>= _) _ _ _
  refine wpAny_bind (wpAny_cRoomFor hu ?_)
  refine wpAny_bind (m := callSpecialIfBound? (.ref x) (Str.ofString "__eq__") [b]) (ifBound_K X I hs hf (wpAny_mono h (fun v s' hv => ?_) fun _ _ y => y))
  obtain ⟨r, rfl, hq⟩ := hv
  show wpAny _ _ (truthy (.bool r) >>= _) _ _ _
  exact wpAny_bind (wpAny_truthy_bool (wpAny_pure hq))
theorem tryNe {Q : Option Value → Shared → Prop} (hu : A.units + 1 < cLine) (X : K.In s.heap) (I : InstAt s.heap x ox C od) (hne : findIn K (.ref C) "__ne__" = some (some (.builtin "object.__ne__"))) (hm : mroIn K C (.type "object") = some true)
    (hs : findIn K (.ref C) "__eq__" = some (some (.ref f))) (hf : isFn K (.ref f) = true)
    (h : wpAny (model prog w) A.in1 (call (.ref f) [.ref x, b]) (fun v s' => ∃ r, v = .bool r ∧ Q (some (.bool (!r))) s') E s) : wpAny (model prog w) A (tryCompare (.ref x) "__ne__" b) Q E s := by
  unfold tryCompare
  refine wpAny_bind (ifBound_objNe X I hne ?_)
  refine wpAny_call (codeAny_call_builtin F.cmp_object.ne.plain F.cmpEntry_ne (check_slot F.cmpKind_ne F.cmpSplit_ne (I.type.andThen (looks_mroIn X hm)) (F.cmpArgs_ne _ _) ?_))
  refine objNe_entry (A := A.in1) hu X I hs hf (wpAny_mono h (fun v s' hv => ?_) fun _ _ e => e)
  obtain ⟨r, rfl, hq⟩ := hv
  exact ⟨r, rfl, wpAny_pure hq⟩
/-- x != b by the own == -/
theorem cmp_ne {Q : Value → Shared → Prop} (hu : A.units + 1 < cLine) (X : K.In s.heap) (I : InstAt s.heap x ox C od) (hb : Looks (model prog w) s.heap (typeOf b) tb) (hn : notFirst K C tb = true)
    (hne : findIn K (.ref C) "__ne__" = some (some (.builtin "object.__ne__"))) (hm : mroIn K C (.type "object") = some true) (hs : findIn K (.ref C) "__eq__" = some (some (.ref f))) (hf : isFn K (.ref f) = true)
    (h : wpAny (model prog w) A.in1 (call (.ref f) [.ref x, b]) (fun v s' => ∃ r, v = .bool r ∧ Q (.bool (!r)) s') E s) : wpAny (model prog w) A (richCompare .NotEq (.ref x) b) Q E s := by
  have one : wpAny (model prog w) A (tryCompare (.ref x) "__ne__" b) (fun r s' => ∃ v, r = some v ∧ Q v s') E s :=
    tryNe hu X I hne hm hs hf (wpAny_mono h (fun v s' hv => by obtain ⟨r, rfl, hq⟩ := hv; exact ⟨r, rfl, _, rfl, hq⟩) fun _ _ e => e)
  unfold richCompare
  simp only [oneThing_ref]
  rw [cmpInfo_NotEq]
  dsimp only
  refine wpAny_holding (wpAny_bind (wpAny_cRoomFor (Nat.lt_of_succ_lt hu) ?_))
  refine wpAny_bind (I.type.here (wpAny_bind (hb.here ?_)))
  split
  · rename_i q
    have e : subIn K tb (.ref C) = some false := by
      rcases Bool.or_eq_true_iff.mp hn with e | e
      · rw [beq_iff_eq.mp e] at q; simp at q
      · exact beq_iff_eq.mp e
    refine wpAny_bind ((looks_subIn X e).here ?_)
    simp only [Bool.false_eq_true, if_false]
    refine wpAny_bind (wpAny_mono one (fun r s' z => ?_) fun _ _ e => e)
    obtain ⟨v, rfl, hq⟩ := z
    exact wpAny_pure hq
  · refine wpAny_bind (wpAny_pure ?_)
    simp only [Bool.false_eq_true, if_false]
    refine wpAny_bind (wpAny_mono one (fun r s' z => ?_) fun _ _ e => e)
    obtain ⟨v, rfl, hq⟩ := z
    exact wpAny_pure hq
/-- an int on the left: it declines, the reflected method of the right is called -/
theorem cmp_R {op : CmpOp} {t : Tok} {i : Int} {Q : Value → Shared → Prop} (hu : A.units < cLine) (X : K.In s.heap) (I : InstAt s.heap x ox C od) (hsub : subIn K (.ref C) (.type "int") = some false)
    (hone : oneThing? op (.int i t) (.ref x) = none)
    (dec : wpAny (model prog w) A (tryCompare (.int i t) (cmpInfo op).2.1 (.ref x)) (fun r s' => r = none ∧ s' = s) E s)
    (h : wpAny (model prog w) A (tryCompare (.ref x) (cmpInfo op).2.2 (.int i t)) (fun r s' => ∃ v, r = some v ∧ Q v s') E s) : wpAny (model prog w) A (richCompare op (.int i t) (.ref x)) Q E s := by
  unfold richCompare
  rw [hone]
  dsimp only
  refine wpAny_holding (wpAny_bind (wpAny_cRoomFor hu ?_))
  have L1 : Looks (model prog w) s.heap (typeOf (.int i t)) (.type "int") := Looks.of_pure rfl
  refine wpAny_bind (L1.here (wpAny_bind (I.type.here ?_)))
  split
  · refine wpAny_bind ((looks_subIn X hsub).here ?_)
    simp only [Bool.false_eq_true, if_false]
    refine wpAny_bind (wpAny_mono dec (fun r s' z => ?_) fun _ _ e => e)
    obtain ⟨rfl, rfl⟩ := z
    simp only [Bool.not_false, if_true]
    refine wpAny_bind (wpAny_mono h (fun r s' z => ?_) fun _ _ e => e)
    obtain ⟨v, rfl, hq⟩ := z
    exact wpAny_pure hq
  · rename_i q
    exact absurd (by simp) q
end
end Ps

/-! The same over the layer: values of any known type on the right. -/
namespace Ps
open PySem PySem.Spec PyProof.Rows PySem.W L2

section
variable {prog : Program} {w : World} {A : Around} {E : Value → Shared → Prop} {s : Shared} {K : Frag} {x C f : Addr} {ox : Obj} {od : Option Obj} {b : Value} {nm T : String}
/-- a built-in class, as a number's operator looks at it -/
structure Bt (T nm : String) : Prop where
  l : ∃ o, fastLookup T (PySem.dunder nm) = some o
  r : ∃ o, fastLookup T (dunderR nm) = some o
  no : (fastBuiltinMro T).map (fun l => l.all fun v => match v with | .type _ => true | _ => false) = some true
theorem noRef {T : String} {C : Addr} (h : (fastBuiltinMro T).map (fun l => l.all fun v => match v with | .type _ => true | _ => false) = some true) : subIn K (.type T) (.ref C) = some false := by
  show (fastBuiltinMro T).map (·.contains (.ref C)) = some false
  cases e : fastBuiltinMro T with
  | none => rw [e] at h; cases h
  | some l =>
    rw [e] at h
    have h2 : (l.all fun v => match v with | .type _ => true | _ => false) = true := Option.some.inj h
    show some (l.contains (.ref C)) = some false
    congr 1
    rw [Bool.eq_false_iff]
    intro z
    have z2 := List.all_eq_true.mp h2 _ (List.contains_iff_mem.mp z)
    cases z2
theorem bin1_T {Q : Value → Shared → Prop} (X : K.In s.heap) (I : InstAt s.heap x ox C od) (hb : Looks (model prog w) s.heap (typeOf b) (.type T)) (hc : selfFirst K C = true)
    (hs : findIn K (.ref C) (PySem.dunder nm) = some (some (.ref f))) (hf : isFn K (.ref f) = true) {rc : Option Value} (hr : findIn K (.ref C) (dunderR nm) = some rc) (hp : rc = none ∨ ∃ g : Addr, rc = some (.ref g)) (B : Bt T nm)
    (h : wpAny (model prog w) A (call (.ref f) [.ref x, b]) (PySem.W.CmpBack Q) E s) : wpAny (model prog w) A (binaryOp1 nm (.ref x) b) (fun r s' => ∃ v, r = some v ∧ Q v s') E s := by
  obtain ⟨cd, rest, hcd, hm⟩ := ksp_first hc
  have one := ksp_try X I hs hf h
  obtain ⟨⟨fo, h1⟩, ⟨ro, h2⟩, hno⟩ := B
  obtain ⟨hh, g, d, tt, os⟩ := s
  have L1 : Looks (model prog w) hh (typeOf (.ref x)) (.ref C) := I.type
  have L3 : Looks (model prog w) hh (fillsNumberSlot (.ref C) nm) true := fills_K X hcd hm hs
  have L4 : Looks (model prog w) hh (fillsNumberSlot (.type T) nm) ((fo.isSome && !isSeqSlot fo) || (ro.isSome && !isSeqSlot ro)) := ksp_fillsT X h1 h2
  have L5 : Looks (model prog w) hh (isSubtype (.type T) (.ref C)) false := looks_subIn X (noRef hno)
  have L6 : Looks (model prog w) hh (numberSlotInPython (.ref C) nm) true := ksp_inPy X hs hr hp
  have L7 : Looks (model prog w) hh (numberSlotInPython (.type T) nm) false := Looks.of_pure rfl
  have L8 : Looks (model prog w) hh (typeLookup (.type T) (dunderR nm)) ro := looks_findIn X h2
  generalize ((fo.isSome && !isSeqSlot fo) || (ro.isSome && !isSeqSlot ro)) = right at L4
  have hne : (Value.ref C == Value.type T) = false := Bool.eq_false_iff.mpr fun q => by cases beq_iff_eq.mp q
  unfold binaryOp1
  refine wpAny_bind (L1.at (wpAny_bind (hb.at (wpAny_bind (L3.at ?_)))))
  simp only [hne, Bool.false_eq_true, if_false]
  cases right
  · ksp_lk
    refine wpAny_mono one (fun r s' hr' => ?_) fun _ _ e => e
    obtain ⟨v, rfl, hq⟩ := hr'
    ksp_lk
    exact ⟨_, rfl, hq⟩
  · ksp_lk
    refine wpAny_mono one (fun r s' hr' => ?_) fun _ _ e => e
    obtain ⟨v, rfl, hq⟩ := hr'
    ksp_lk
    exact ⟨_, rfl, hq⟩
theorem bin1_K {Q : Value → Shared → Prop} (X : K.In s.heap) (I : InstAt s.heap x ox C od) (hb : Looks (model prog w) s.heap (typeOf b) (.ref C)) (hc : selfFirst K C = true)
    (hs : findIn K (.ref C) (PySem.dunder nm) = some (some (.ref f))) (hf : isFn K (.ref f) = true)
    (h : wpAny (model prog w) A (call (.ref f) [.ref x, b]) (PySem.W.CmpBack Q) E s) : wpAny (model prog w) A (binaryOp1 nm (.ref x) b) (fun r s' => ∃ v, r = some v ∧ Q v s') E s := by
  obtain ⟨cd, rest, hcd, hm⟩ := ksp_first hc
  have one := ksp_try X I hs hf h
  unfold binaryOp1
  refine wpAny_bind (I.type.here (wpAny_bind (hb.here (wpAny_bind ((fills_K X hcd hm hs).here ?_)))))
  simp only [beq_self_eq_true, if_true]
  refine wpAny_bind (wpAny_pure ?_)
  simp only [Bool.and_false, Bool.false_eq_true, if_false, Bool.false_and]
  refine wpAny_bind (wpAny_pure ?_)
  simp only [Bool.false_eq_true, if_false]
  refine wpAny_bind (m := tryMethod (.ref x) _ b) (wpAny_mono one (fun r s' hr' => ?_) fun _ _ e => e)
  obtain ⟨v, rfl, hq⟩ := hr'
  exact wpAny_pure ⟨_, rfl, hq⟩
theorem bin_of1 {op : Operator} {a : Value} {Q : Value → Shared → Prop} (h : wpAny (model prog w) A (binaryOp1 op.info.2 a b) (fun r s' => ∃ v, r = some v ∧ Q v s') E s) : wpAny (model prog w) A (binaryOp op a b) Q E s := by
  rcases hi : op.info with ⟨sym, nm'⟩
  rw [hi] at h
  simp only [binaryOp, hi]
  refine wpAny_holding (wpAny_bind (wpAny_mono h (fun r s' z => ?_) fun _ _ e => e))
  obtain ⟨v, rfl, hq⟩ := z
  exact wpAny_pure hq
/-- no in-place method along the class and object -/
structure NoI (K : Frag) (C : Addr) (nm : String) : Prop where
  cd : ∃ cd, clsIn K C = some cd ∧ cd.mro = [.ref C, .type "object"]
  l : findIn K (.ref C) (dunderI nm) = some none
  o : fastLookup "object" (dunderI nm) = some none
theorem fillsI_no {M : Model} {h : Heap} {add : Bool} (X : K.In h) (N : NoI K C nm) : Looks M h (fillsInplaceSlot (.ref C) nm add) false := by
  obtain ⟨⟨cd, hc, hm⟩, hl, ho⟩ := N
  intro A Q E s k q
  have Lm : Looks M h (mroOf (.ref C)) cd.mro := (looks_clsIn X hc).andThen (f := fun cd => pure cd.mro) .now
  have Lm' := Lm.keeps k
  obtain ⟨hh, g, d, tt, os⟩ := s
  have X' : K.In hh := X.keeps k
  have L1 : Looks M hh (typeLookup (.ref C) (dunderI nm)) none := looks_findIn X' hl
  have L2 : Looks M hh (typeLookup (.type "object") (dunderI nm)) none := looks_findIn X' (t := .type "object") ho
  unfold fillsInplaceSlot
  refine wpAny_bind (Lm'.at ?_)
  rw [hm, List.anyM_cons]
  refine wpAny_bind ?_
  repeat lk
  first
    | exact q
    | (rw [List.anyM_cons]; refine wpAny_bind ?_; repeat lk; first | exact q | (rw [List.anyM_nil]; exact wpAny_pure q))
theorem ip_of1 {op : Operator} {Q : Value → Shared → Prop} (X : K.In s.heap) (I : InstAt s.heap x ox C od) (N : NoI K C op.info.2) (h : wpAny (model prog w) A (binaryOp1 op.info.2 (.ref x) b) (fun r s' => ∃ v, r = some v ∧ Q v s') E s) : wpAny (model prog w) A (inplaceOp op (.ref x) b) Q E s := by
  unfold inplaceOp
  refine wpAny_holding ?_
  refine wpAny_bind (I.type.here (wpAny_bind ((fillsI_no X N).here ?_)))
  simp only [Bool.false_eq_true, if_false]
  refine wpAny_bind (wpAny_mono h (fun r s' z => ?_) fun _ _ e => e)
  obtain ⟨v, rfl, hq⟩ := z
  exact wpAny_pure hq
end
end Ps

/-! Rules: operators and comparisons of own instances with values of any known type. -/
namespace Ps
open PySem PySem.Spec PyProof.Rows PySem.W L2

section
variable {Z : Cz} {X : Cx} {CX : CXT} {k : Nat} {C : Addr} {ps : List Str} {sp : Sp} {E : XK}
/-- a value that stands right of an operator -/
def Sd (K : Frag) (C : Addr) (nm : String) (H : Hp) (y : V) : Prop := ∃ t, TyX K H y t ∧ (t = .ref C ∨ ∃ T, t = .type T ∧ Bt T nm)
def rBin (K : Frag) (C : Addr) (nm : String) (sp : Sp) (E : XK) : R2 := fun x y H Q => InsC C H x ∧ Sd K C nm H y ∧ sp [x, y] H Q E
theorem bin1_any {nm : String} {f : Addr} {fd : FuncData} {rc : Option Value} {pins : List (Addr × Obj)} {s : Shared} {σ : L2.St} {H : Hp} {x y : V} {v u : Value} {Q : VK} (O : OwnOp X.K C f (PySem.dunder nm)) (hrc : findIn X.K (.ref C) (dunderR nm) = some rc) (hp : rc = none ∨ ∃ g : Addr, rc = some (.ref g))
    (G : FnOk X.prog X.w X.K X.mg X.base CX k f fd ps sp) (hr : Room k X.A) (hb : Binds X.K fd ps []) (hx : Passes CX X E) (I : L2.Inv X pins σ H s) (rx : RelV x v) (ry : RelV y u) (h : rBin X.K C nm sp E x y H Q) :
    ∃ a ox od, v = .ref a ∧ InstAt s.heap a ox C od ∧ wpAny (model X.prog X.w) X.A (binaryOp1 nm v u) (fun r s' => ∃ z, r = some z ∧ EP X pins σ Q z s') X.xe s := by
  obtain ⟨⟨a, dx, fs, rfl, ha⟩, ⟨t, ty, ht⟩, h⟩ := h
  cases (show v = Value.ref a from rx)
  obtain ⟨mA, J0, _⟩ := ins_get I.hok ha
  obtain ⟨od, J, _⟩ := J0.look
  obtain ⟨P, Zk, p, _⟩ := kit_of I ry ty
  have hl := Zk.ty (model X.prog X.w) s.heap I.kIn p
  have hcall := wpAny_mono (run_fn (us := [.ref a, u]) (vs := [.ref a, y]) (dvs := []) G hr hb .nil hx I (.cons rfl (.cons ry .nil)) h) (fun _ _ z => cmpBack z) fun _ _ z => z
  rcases ht with rfl | ⟨T, rfl, B⟩
  · exact ⟨a, _, _, rfl, J, bin1_K I.kIn J hl O.sf O.fn O.isf hcall⟩
  · exact ⟨a, _, _, rfl, J, bin1_T I.kIn J hl O.sf O.fn O.isf hrc hp B hcall⟩
/-- what is known of the reflected method of a class -/
structure Rfl (K : Frag) (C : Addr) (nm : String) : Prop where
  r : ∃ rc, findIn K (.ref C) (dunderR nm) = some rc ∧ (rc = none ∨ ∃ g : Addr, rc = some (.ref g))
theorem op_bin {op : Operator} (c : CalS Z CX k C (PySem.dunder op.info.2) ps sp) (N : Rfl Z.K C op.info.2) (hr : Room k X.A) (hx : Passes CX X E) (z : InZ Z X := by exact ⟨rfl, rfl, rfl, rfl, rfl⟩) : OpR X (binaryOp op) (rBin Z.K C op.info.2 sp E) := by
  obtain ⟨f, fd, G, h1, h2⟩ := c
  obtain ⟨rc, hrc, hp⟩ := N.r
  have z' := z
  obtain ⟨e1, e2, e3, e4, e5⟩ := z
  intro pins s σ H x y v u Q I rx ry h
  obtain ⟨a, ox, od, rfl, J, w1⟩ := bin1_any (X := X) (by rw [e3]; exact h1) (by rw [e3]; exact hrc) hp (z'.ok G) hr (by rw [e3]; exact h2) hx I rx ry (by rw [e3]; exact h)
  exact bin_of1 w1
theorem ip_bin {op : Operator} (c : CalS Z CX k C (PySem.dunder op.info.2) ps sp) (N : Rfl Z.K C op.info.2) (O : NoI Z.K C op.info.2) (hr : Room k X.A) (hx : Passes CX X E) (z : InZ Z X := by exact ⟨rfl, rfl, rfl, rfl, rfl⟩) : PIp X op (rBin Z.K C op.info.2 sp E) := by
  obtain ⟨f, fd, G, h1, h2⟩ := c
  obtain ⟨rc, hrc, hp⟩ := N.r
  have z' := z
  obtain ⟨e1, e2, e3, e4, e5⟩ := z
  intro pins s σ H x y v u Q I rx ry h
  obtain ⟨a, ox, od, rfl, J, w1⟩ := bin1_any (X := X) (by rw [e3]; exact h1) (by rw [e3]; exact hrc) hp (z'.ok G) hr (by rw [e3]; exact h2) hx I rx ry (by rw [e3]; exact h)
  exact ip_of1 I.kIn J (by rw [e3]; exact O) w1
/-! ### comparisons -/
def Nf (K : Frag) (C : Addr) (H : Hp) (y : V) : Prop := ∃ t, TyX K H y t ∧ notFirst K C t = true
def rCmp (K : Frag) (C : Addr) (sp : Sp) (E : XK) : R2 := fun x y H Q => InsC C H x ∧ Nf K C H y ∧ sp [x, y] H Q E
theorem op_cmp {op : CmpOp} (c : CalS Z CX k C (cmpInfo op).2.1 ps sp) (hr : Room k X.A) (hx : Passes CX X E) (z : InZ Z X := by exact ⟨rfl, rfl, rfl, rfl, rfl⟩) (hop : ∀ a b, compareOp op a b = richCompare op a b := by intro _ _; rfl) : OpR X (compareOp op) (rCmp Z.K C sp E) := by
  obtain ⟨f, fd, G, h1, h2⟩ := c
  have z' := z
  obtain ⟨e1, e2, e3, e4, e5⟩ := z
  intro pins s σ H x y v u Q I rx ry h
  obtain ⟨⟨a, dx, fs, rfl, ha⟩, ⟨t, ty, ht⟩, h⟩ := h
  cases (show v = Value.ref a from rx)
  rw [← e3] at ty ht h1
  obtain ⟨mA, J0, _⟩ := ins_get I.hok ha
  obtain ⟨od, J, _⟩ := J0.look
  obtain ⟨P, Zk, p, _⟩ := kit_of I ry ty
  obtain ⟨m, hF⟩ := I.fr
  rw [hop]
  refine cmp_K hr.units0 hF I.ok.mod.kin J (Zk.ty (model X.prog X.w) s.heap I.kIn p) ht h1.fn h1.isf ?_
  exact wpAny_mono (run_fn (us := [.ref a, u]) (vs := [.ref a, y]) (dvs := []) (z'.ok G) hr (by rw [e3]; exact h2) .nil hx I (.cons rfl (.cons ry .nil)) h) (fun _ _ z => cmpBack z) fun _ _ z => z
/-- what is known of != -/
structure NeT (K : Frag) (C : Addr) : Prop where
  ne : findIn K (.ref C) "__ne__" = some (some (.builtin "object.__ne__"))
  m : mroIn K C (.type "object") = some true
def rNe (K : Frag) (C : Addr) (sp : Sp) (E : XK) : R2 := fun x y H Q => InsC C H x ∧ Nf K C H y ∧ sp [x, y] H (fun v H' => ∃ b, v = .bl b ∧ Q (.bl (!b)) H') E
theorem ne_back {pins : List (Addr × Obj)} {σ : L2.St} {Q : VK} {v : Value} {s : Shared} (h : EP X pins σ (fun v H' => ∃ b, v = .bl b ∧ Q (.bl (!b)) H') v s) : ∃ r, v = .bool r ∧ EP X pins σ Q (.bool (!r)) s := by
  obtain ⟨v', H', I, r, b, rfl, q⟩ := h
  cases (show v = Value.bool b from r)
  exact ⟨b, rfl, .bl (!b), H', I, rfl, q⟩
theorem op_ne_ (c : CalS Z CX k C "__eq__" ps sp) (N : NeT Z.K C) (hr : Room (k + 1) X.A) (hx : Passes CX X E) (z : InZ Z X := by exact ⟨rfl, rfl, rfl, rfl, rfl⟩) : OpR X (compareOp .NotEq) (rNe Z.K C sp E) := by
  obtain ⟨f, fd, G, h1, h2⟩ := c
  have z' := z
  obtain ⟨e1, e2, e3, e4, e5⟩ := z
  intro pins s σ H x y v u Q I rx ry h
  obtain ⟨⟨a, dx, fs, rfl, ha⟩, ⟨t, ty, ht⟩, h⟩ := h
  cases (show v = Value.ref a from rx)
  rw [← e3] at ty ht h1 N
  obtain ⟨mA, J0, _⟩ := ins_get I.hok ha
  obtain ⟨od, J, _⟩ := J0.look
  obtain ⟨P, Zk, p, _⟩ := kit_of I ry ty
  show wpAny _ _ (richCompare .NotEq (.ref a) u) _ _ _
  refine cmp_ne (hu_of hr) I.kIn J (Zk.ty (model X.prog X.w) s.heap I.kIn p) ht N.ne N.m h1.fn h1.isf ?_
  exact wpAny_mono (run_fn1 (us := [.ref a, u]) (vs := [.ref a, y]) (z'.ok G) hr (by rw [e3]; exact h2) hx I (.cons rfl (.cons ry .nil)) h) (fun _ _ z => ne_back z) fun _ _ z => z
/-! an int on the left -/
def rCmpI (C : Addr) (sp : Sp) (E : XK) : R2 := fun x y H Q => (∃ i, x = .int i) ∧ InsC C H y ∧ sp [y, x] H Q E
theorem one_int {op : CmpOp} {i : Int} {t : Tok} {x : Addr} : oneThing? op (.int i t) (.ref x) = none := by cases op <;> rfl
theorem op_cmpI {op : CmpOp} {id : String} (c : CalS Z CX k C (cmpInfo op).2.2 ps sp) (hsub : subIn Z.K (.ref C) (.type "int") = some false) (sl : Slot "int" (cmpInfo op).2.1 id)
    (hd : ∀ {s : Shared} {x C dx : Addr} {t : Tok} {i : Int} {Q : Value → Shared → Prop}, s.heap.get? x = some (instObj C dx) → Q .notImplemented s → wpAny (model X.prog X.w) X.A (call (.builtin id) [.int i t, .ref x]) Q X.xe s)
    (hr : Room k X.A) (hx : Passes CX X E) (z : InZ Z X := by exact ⟨rfl, rfl, rfl, rfl, rfl⟩) (hop : ∀ a b, compareOp op a b = richCompare op a b := by intro _ _; rfl) : OpR X (compareOp op) (rCmpI C sp E) := by
  obtain ⟨f, fd, G, h1, h2⟩ := c
  have z' := z
  obtain ⟨e1, e2, e3, e4, e5⟩ := z
  intro pins s σ H x y v u Q I rx ry h
  obtain ⟨⟨i, rfl⟩, ⟨a, dx, fs, rfl, ha⟩, h⟩ := h
  cases (show u = Value.ref a from ry)
  obtain ⟨t, e⟩ := (show ∃ t, v = Value.int i t from rx)
  cases e
  rw [← e3] at hsub h1
  obtain ⟨mA, J0, _⟩ := ins_get I.hok ha
  obtain ⟨_, _, _, hget, _⟩ := (show ObjOk X.prog X.w H s.heap a (.ins C dx fs) from I.hok a _ ha)
  obtain ⟨od, J, _⟩ := J0.look
  rw [hop]
  refine cmp_R hr.units0 I.kIn J hsub one_int (wpAny_tryCompare_declines (typeIs_int _ i t) sl (hd hget ⟨rfl, rfl, rfl⟩)) ?_
  unfold tryCompare
  refine wpAny_bind (ifBound_K I.kIn J h1.fn h1.isf (wpAny_mono (run_fn (us := [.ref a, .int i t]) (vs := [.ref a, .int i]) (dvs := []) (z'.ok G) hr (by rw [e3]; exact h2) .nil hx I (.cons rfl (.cons ⟨t, rfl⟩ .nil)) h) (fun v s' z => ?_) fun _ _ z => z))
  have z2 := cmpBack z
  cases v <;> first | exact False.elim z2 | exact wpAny_pure ⟨_, rfl, z⟩
def rNeI (C : Addr) (sp : Sp) (E : XK) : R2 := fun x y H Q => (∃ i, x = .int i) ∧ InsC C H y ∧ sp [y, x] H (fun v H' => ∃ b, v = .bl b ∧ Q (.bl (!b)) H') E
theorem op_neI (c : CalS Z CX k C "__eq__" ps sp) (N : NeT Z.K C) (hsub : subIn Z.K (.ref C) (.type "int") = some false) (hr : Room (k + 1) X.A) (hx : Passes CX X E) (z : InZ Z X := by exact ⟨rfl, rfl, rfl, rfl, rfl⟩) : OpR X (compareOp .NotEq) (rNeI C sp E) := by
  obtain ⟨f, fd, G, h1, h2⟩ := c
  have z' := z
  obtain ⟨e1, e2, e3, e4, e5⟩ := z
  intro pins s σ H x y v u Q I rx ry h
  obtain ⟨⟨i, rfl⟩, ⟨a, dx, fs, rfl, ha⟩, h⟩ := h
  cases (show u = Value.ref a from ry)
  obtain ⟨t, e⟩ := (show ∃ t, v = Value.int i t from rx)
  cases e
  rw [← e3] at hsub h1 N
  obtain ⟨mA, J0, _⟩ := ins_get I.hok ha
  obtain ⟨_, _, _, hget, _⟩ := (show ObjOk X.prog X.w H s.heap a (.ins C dx fs) from I.hok a _ ha)
  obtain ⟨od, J, _⟩ := J0.look
  show wpAny _ _ (richCompare .NotEq (.int i t) (.ref a)) _ _ _
  refine cmp_R hr.units0 I.kIn J hsub one_int (wpAny_tryCompare_declines (typeIs_int _ i t) F.slot_int_ne (dec_ne hget ⟨rfl, rfl, rfl⟩)) ?_
  show wpAny _ _ (tryCompare (.ref a) "__ne__" (.int i t)) _ _ _
  refine tryNe (hu_of hr) I.kIn J N.ne N.m h1.fn h1.isf ?_
  refine wpAny_mono (run_fn1 (us := [.ref a, .int i t]) (vs := [.ref a, .int i]) (z'.ok G) hr (by rw [e3]; exact h2) hx I (.cons rfl (.cons ⟨t, rfl⟩ .nil)) h) (fun _ _ z => ?_) fun _ _ z => z
  obtain ⟨r, rfl, q⟩ := ne_back z
  exact ⟨r, rfl, _, rfl, q⟩
end
/-! ### facts of built-in classes -/
theorem nf_ty {K : Frag} {C : Addr} {T : String} (h : (fastBuiltinMro T).map (fun l => l.all fun v => match v with | .type _ => true | _ => false) = some true) : notFirst K C (.type T) = true := by
  unfold notFirst
  rw [noRef h]
  simp
theorem nf_own {K : Frag} {C : Addr} : notFirst K C (.ref C) = true := by simp [notFirst]
theorem nf_int {K : Frag} {C : Addr} : notFirst K C (.type "int") = true := nf_ty (by decide +kernel)
theorem nf_bool {K : Frag} {C : Addr} : notFirst K C (.type "bool") = true := nf_ty (by decide +kernel)
theorem nf_str {K : Frag} {C : Addr} : notFirst K C (.type "str") = true := nf_ty (by decide +kernel)
theorem nf_non {K : Frag} {C : Addr} : notFirst K C (.type "NoneType") = true := nf_ty (by decide +kernel)
theorem nf_flt {K : Frag} {C : Addr} : notFirst K C (.type "float") = true := nf_ty (by decide +kernel)
theorem nf_list {K : Frag} {C : Addr} : notFirst K C (.type "list") = true := nf_ty (by decide +kernel)
theorem nf_tuple {K : Frag} {C : Addr} : notFirst K C (.type "tuple") = true := nf_ty (by decide +kernel)
theorem nf_dict {K : Frag} {C : Addr} : notFirst K C (.type "dict") = true := nf_ty (by decide +kernel)
end Ps

/-! Shares: their comparisons, where nothing is raised. -/
namespace Ps
open PySem PySem.Spec PyProof.Rows PySem.W L2

/-- v is no number -/
def NotNum (K : Frag) (C : Addr) (H : Hp) (v : V) : Prop := ∃ t, TyX K H v t ∧ kitOne K t (.ref C) = some false ∧ notFirst K C t = true ∧ (t = .type "bool" ∨ kitOne K t (.type "int") = some false)
def spIsNum (K : Frag) (C : Addr) : Sp := fun vs H Q _ => ∃ v, vs = [v] ∧ (((∃ q, Nb C H v q) ∧ Q (.bl true) H) ∨ (NotNum K C H v ∧ Q (.bl false) H))
def gMin (q r : Int × Int) : Int := q.1 * r.2 - r.1 * q.2
def spMinus (C : Addr) : Sp := fun vs H Q _ => ∃ x y q r, vs = [x, y] ∧ Sh C H x q ∧ Nb C H y r ∧ Sz 4000 q ∧ Sz 4000 r ∧ ∀ H', Same H H' → Q (.int (gMin q r)) H'
def spOrd (C : Addr) (g : Int → Bool) : Sp := fun vs H Q _ => ∃ x y q r, vs = [x, y] ∧ Sh C H x q ∧ Nb C H y r ∧ Sz 4000 q ∧ Sz 4000 r ∧ ∀ H', Same H H' → Q (.bl (g (gMin q r))) H'
def spShEq (K : Frag) (C : Addr) : Sp := fun vs H Q _ => ∃ x y q, vs = [x, y] ∧ Sh C H x q ∧ ((∃ r, Nb C H y r ∧ Sz 4000 q ∧ Sz 4000 r ∧ ∀ H', Same H H' → Q (.bl (decide (gMin q r = 0))) H') ∨ (NotNum K C H y ∧ Q (.bl false) H))
theorem Nb.nf {Z : Cz} {C : Addr} (T : ShT Z C) {H : Hp} {y : V} {q : Int × Int} (h : Nb C H y q) : Nf Z.K C H y := by
  rcases h with ⟨a, dx, rfl, ha⟩ | ⟨i, rfl, _⟩
  · exact ⟨_, T.ty ha, nf_own⟩
  · exact ⟨_, .base (.int _), nf_int⟩
theorem NotNum.nf {K : Frag} {C : Addr} {H : Hp} {y : V} (h : NotNum K C H y) : Nf K C H y := by
  obtain ⟨t, ty, _, hn, _⟩ := h
  exact ⟨t, ty, hn⟩
section
variable {Z : Cz} {f C : Addr} {fd : FuncData}
theorem ok_is_number (F : Fun Z.K "is_number" "is_number" s_is_number f fd) (T : ShT Z C) (c_is_integer : Cal Z CX0 1 "is_integer" ["value"] [] (spIsInt Z.K)) : Z.ok CX0 2 f fd ["value"] (spIsNum Z.K C) := by
  refine F.ok sc_is_number (fun vs H Q E h => ?_) (fun cdv A outer s H vs Q E hr h => ?_)
  · obtain ⟨v, rfl, _⟩ := h
    rfl
  · obtain ⟨v, rfl, h⟩ := h
    refine ⟨_, (pss_one (ps_ret (pe_or (pe_callB call_isi (by rfl) T.isi (by decide +kernel) (pa_cons (pv 0) (pa_cons (pe_glob (v := .ref C) rfl T.mgC rfl) pa_nil))) (pe_one (pe_cal c_is_integer (hr.mono (by decide)) (by rfl) pass0 (pa_cons (pv 0) pa_nil)))))), ?_⟩
    rcases h with ⟨⟨q, ⟨a, dx, rfl, ha⟩ | ⟨i, rfl, _⟩⟩, k⟩ | ⟨⟨t, ty, k1, _, k2⟩, k⟩
    · exact ⟨_, rfl, _, _, _, _, true, rfl, .own C, T.ty ha, T.kCC, _, rfl, iteT k⟩
    · refine ⟨_, rfl, _, _, _, _, false, rfl, .own C, .base (.int _), T.kIC, _, rfl, iteF ?_⟩
      exact ⟨_, rfl, _, _, rfl, .base (.int _), .inl ⟨rfl, k⟩⟩
    · refine ⟨_, rfl, _, _, _, _, false, rfl, .own C, ty, k1, _, rfl, iteF ?_⟩
      rcases k2 with rfl | k2
      · exact ⟨_, rfl, _, _, rfl, ty, .inr (.inl ⟨rfl, k⟩)⟩
      · exact ⟨_, rfl, _, _, rfl, ty, .inr (.inr ⟨k2, k⟩)⟩
theorem ok_minus (F : Fun Z.K "minus" "Share.minus" s_Share_minus f fd) (T : ShT Z C) (c_share_of_number : CNum Z C) : Z.ok CX0 5 f fd ["self", "other"] (spMinus C) := by
  refine F.ok sc_Share_minus (fun vs H Q E h => ?_) (fun cdv A outer s H vs Q E hr h => ?_)
  · obtain ⟨x, y, q, r, rfl, _⟩ := h
    rfl
  · obtain ⟨x, y, q, r, rfl, hx, hy, hq, hr', k⟩ := h
    refine ⟨_, (pss_cons (ps_set (i := 1) sc_Share_minus.nd rfl (Or.inl rfl) (pe_cal c_share_of_number (hr.mono (by decide)) (by rfl) pass0 (pa_cons (pv 1) pa_nil)))
      (pss_one (ps_ret (pe_op op_sub (pe_op op_mulW (pe_fld (pv 0) rfl) (pe_fld (pv 1) rfl)) (pe_op op_mulW (pe_fld (pv 1) rfl) (pe_fld (pv 0) rfl)))))), ?_⟩
    refine ⟨_, rfl, _, r, rfl, hy, fun y' H1 e1 hy' => ?_⟩
    obtain ⟨a, dx, rfl, ha⟩ := hx.mono e1
    obtain ⟨b, dy, rfl, hb⟩ := id hy'
    refine ⟨_, rfl, a, C, dx, _, _, rfl, ha, T.cl, T.nT, shF_top _ _, _, rfl, b, C, dy, _, _, rfl, hb, T.cl, T.nU, shF_under _ _, _, _, rfl, rfl, lt_mul hq.t hr'.u, ?_⟩
    exact ⟨_, rfl, b, C, dy, _, _, rfl, hb, T.cl, T.nT, shF_top _ _, _, rfl, a, C, dx, _, _, rfl, ha, T.cl, T.nU, shF_under _ _, _, _, rfl, rfl, lt_mul hr'.t hq.u, _, _, rfl, rfl, k _ e1⟩
abbrev CMinus (Z : Cz) (C : Addr) : Prop := CalM Z CX0 5 C "minus" ["self", "other"] [] (spMinus C)
theorem shF_no' (t u : Int) (m : Str) (h1 : (m == ("own_top" : Str)) = false) (h2 : (m == ("own_under" : Str)) = false) : (shF t u).lookup m = none := by
  unfold shF
  rw [List.lookup_cons, h1, List.lookup_cons, h2]
  rfl
theorem ok_lt (F : Fun Z.K "__lt__" "Share.__lt__" s_Share_dd_lt f fd) (c_minus : CMinus Z C) : Z.ok CX0 6 f fd ["self", "other"] (spOrd C fun i => decide (i < 0)) := by
  refine F.ok sc_Share_dd_lt (fun vs H Q E h => ?_) (fun cdv A outer s H vs Q E hr h => ?_)
  · obtain ⟨x, y, q, r, rfl, _⟩ := h
    rfl
  · obtain ⟨x, y, q, r, rfl, hx, hy, hq, hr', k⟩ := h
    refine ⟨_, (pss_one (ps_ret (pe_cmpR op_lt (pe_calM c_minus (hr.mono (by decide)) pass0 (pv 0) (pa_cons (pv 1) pa_nil)) pe_int (nomark _)))), ?_⟩
    obtain ⟨a, dx, rfl, ha⟩ := id hx
    exact ⟨_, rfl, a, dx, _, rfl, ha, shF_no' _ _ _ (by decide) (by decide), _, rfl, _, _, _, _, rfl, hx, hy, hq, hr', fun H' e => ⟨_, _, rfl, rfl, k _ e⟩⟩
theorem ok_le (F : Fun Z.K "__le__" "Share.__le__" s_Share_dd_le f fd) (c_minus : CMinus Z C) : Z.ok CX0 6 f fd ["self", "other"] (spOrd C fun i => decide (i ≤ 0)) := by
  refine F.ok sc_Share_dd_le (fun vs H Q E h => ?_) (fun cdv A outer s H vs Q E hr h => ?_)
  · obtain ⟨x, y, q, r, rfl, _⟩ := h
    rfl
  · obtain ⟨x, y, q, r, rfl, hx, hy, hq, hr', k⟩ := h
    refine ⟨_, (pss_one (ps_ret (pe_cmpR op_le (pe_calM c_minus (hr.mono (by decide)) pass0 (pv 0) (pa_cons (pv 1) pa_nil)) pe_int (nomark _)))), ?_⟩
    obtain ⟨a, dx, rfl, ha⟩ := id hx
    exact ⟨_, rfl, a, dx, _, rfl, ha, shF_no' _ _ _ (by decide) (by decide), _, rfl, _, _, _, _, rfl, hx, hy, hq, hr', fun H' e => ⟨_, _, rfl, rfl, k _ e⟩⟩
theorem ok_gt (F : Fun Z.K "__gt__" "Share.__gt__" s_Share_dd_gt f fd) (c_minus : CMinus Z C) : Z.ok CX0 6 f fd ["self", "other"] (spOrd C fun i => decide (0 < i)) := by
  refine F.ok sc_Share_dd_gt (fun vs H Q E h => ?_) (fun cdv A outer s H vs Q E hr h => ?_)
  · obtain ⟨x, y, q, r, rfl, _⟩ := h
    rfl
  · obtain ⟨x, y, q, r, rfl, hx, hy, hq, hr', k⟩ := h
    refine ⟨_, (pss_one (ps_ret (pe_cmpR op_gt (pe_calM c_minus (hr.mono (by decide)) pass0 (pv 0) (pa_cons (pv 1) pa_nil)) pe_int (nomark _)))), ?_⟩
    obtain ⟨a, dx, rfl, ha⟩ := id hx
    exact ⟨_, rfl, a, dx, _, rfl, ha, shF_no' _ _ _ (by decide) (by decide), _, rfl, _, _, _, _, rfl, hx, hy, hq, hr', fun H' e => ⟨_, _, rfl, rfl, k _ e⟩⟩
theorem ok_ge (F : Fun Z.K "__ge__" "Share.__ge__" s_Share_dd_ge f fd) (c_minus : CMinus Z C) : Z.ok CX0 6 f fd ["self", "other"] (spOrd C fun i => decide (0 ≤ i)) := by
  refine F.ok sc_Share_dd_ge (fun vs H Q E h => ?_) (fun cdv A outer s H vs Q E hr h => ?_)
  · obtain ⟨x, y, q, r, rfl, _⟩ := h
    rfl
  · obtain ⟨x, y, q, r, rfl, hx, hy, hq, hr', k⟩ := h
    refine ⟨_, (pss_one (ps_ret (pe_cmpR op_ge (pe_calM c_minus (hr.mono (by decide)) pass0 (pv 0) (pa_cons (pv 1) pa_nil)) pe_int (nomark _)))), ?_⟩
    obtain ⟨a, dx, rfl, ha⟩ := id hx
    exact ⟨_, rfl, a, dx, _, rfl, ha, shF_no' _ _ _ (by decide) (by decide), _, rfl, _, _, _, _, rfl, hx, hy, hq, hr', fun H' e => ⟨_, _, rfl, rfl, k _ e⟩⟩
theorem ok_eq (F : Fun Z.K "__eq__" "Share.__eq__" s_Share_dd_eq f fd) (c_minus : CMinus Z C) (c_is_number : Cal Z CX0 2 "is_number" ["value"] [] (spIsNum Z.K C)) : Z.ok CX0 6 f fd ["self", "other"] (spShEq Z.K C) := by
  refine F.ok sc_Share_dd_eq (fun vs H Q E h => ?_) (fun cdv A outer s H vs Q E hr h => ?_)
  · obtain ⟨x, y, q, rfl, _⟩ := h
    rfl
  · obtain ⟨x, y, q, rfl, hx, h⟩ := h
    refine ⟨_, (pss_cons (ps_if (pt_not (pt_val (pe_cal c_is_number (hr.mono (by decide)) (by rfl) pass0 (pa_cons (pv 1) pa_nil))))
      (pss_one (ps_ret pe_bl))
      pss_nil)
      (pss_one (ps_ret (pe_cmpR op_eq (pe_calM c_minus (hr.mono (by decide)) pass0 (pv 0) (pa_cons (pv 1) pa_nil)) pe_int (nomark _))))), ?_⟩
    rcases h with ⟨r, hy, hq, hr', k⟩ | ⟨hn, k⟩
    · refine ⟨_, rfl, _, rfl, .inl ⟨⟨_, hy⟩, _, rfl, iteF ?_⟩⟩
      obtain ⟨a, dx, rfl, ha⟩ := id hx
      refine ⟨_, rfl, a, dx, _, rfl, ha, shF_no' _ _ _ (by decide) (by decide), _, rfl, _, _, _, _, rfl, hx, hy, hq, hr', fun H' e => ⟨rfl, ?_⟩⟩
      have := k _ e
      rw [show decide (V.int (gMin q r) = V.int 0) = decide (gMin q r = 0) from decide_eq_decide.mpr ⟨V.int.inj, fun z => by rw [z]⟩]
      exact this
    · exact ⟨_, rfl, _, rfl, .inr ⟨hn, _, rfl, iteT k⟩⟩
end
end Ps

/-! A head by facts: defs by where they stand (a global, a method, a property's getter, a static method), one Bool for all else. -/
namespace Ps
open PySem PySem.Spec PyProof.Rows PySem.W L2 He

inductive At where
  | g (x : Str)
  | m (x m : Str)
  | p (x m : Str)
  | ps (x m : Str)
  | sm (x m : Str)
def rec0 (K : Frag) (p : Addr) (T : String) : Addr := match recIn K p T with
  | some (.ref g :: _) => g
  | _ => 0
def rec1 (K : Frag) (p : Addr) (T : String) : Addr := match recIn K p T with
  | some (_ :: .ref g :: _) => g
  | _ => 0
def At.a (K : Frag) : At → Addr
  | .g x => ga K x
  | .m x n => ma K (ga K x) n
  | .p x n => rec0 K (ma K (ga K x) n) "property"
  | .ps x n => rec1 K (ma K (ga K x) n) "property"
  | .sm x n => rec0 K (ma K (ga K x) n) "staticmethod"
def hdB (K : Frag) (p : Addr) (T : String) (g : Addr) : Bool := match recIn K p T with
  | some (.ref h :: _) => decide (h = g)
  | _ => false
theorem hdB_ok {K : Frag} {p g : Addr} {T : String} (h : hdB K p T g = true) : ∃ rest, recIn K p T = some (.ref g :: rest) := by
  unfold hdB at h
  split at h
  · rename_i a r e
    exact ⟨r, by rw [e, of_decide_eq_true h]⟩
  · cases h
def findB (K : Frag) (C : Addr) (m : Str) : Bool := eqO (findIn K (.ref C) m) (some (some (.ref (ma K C m))))
def At.ok (K : Frag) : At → Bool
  | .g x => eqO (nsIn K mainGlobals x) (some (some (.ref (ga K x))))
  | .m x n => findB K (ga K x) n && (isFn K (.ref (ma K (ga K x) n)) && selfFirst K (ga K x))
  | .p x n => findB K (ga K x) n && (eqO (specialIn K (.ref (ma K (ga K x) n)) "__get__") (some (some (.builtin "property.__get__"))) && (decide (takesIn K (.ref (ma K (ga K x) n)) = some true) && hdB K (ma K (ga K x) n) "property" (rec0 K (ma K (ga K x) n) "property")))
  | .ps x n => true
  | .sm x n => findB K (ga K x) n && hdB K (ma K (ga K x) n) "staticmethod" (rec0 K (ma K (ga K x) n) "staticmethod")
section
variable {K : Frag} {h : Heap} {mg : Str → Option Value} {x m : Str}
theorem At.glo (X : K.In h) (G : h.Ns mainGlobals mg) (c : (At.g x).ok K = true) : mg x = some (.ref (ga K x)) := mg_of X G (eqO_ok c)
theorem At.own (c : (At.m x m).ok K = true) : OwnOp K (ga K x) (ma K (ga K x) m) m := by
  obtain ⟨c1, c⟩ := ba c
  obtain ⟨c2, c3⟩ := ba c
  exact ⟨c3, eqO_ok c1, c2⟩
theorem At.meth (c : (At.m x m).ok K = true) (k : keepIn K (.ref (ma K (ga K x) m)) = true) : Meth K (ga K x) m (ma K (ga K x) m) := by
  obtain ⟨c1, c⟩ := ba c
  obtain ⟨c2, c3⟩ := ba c
  exact ⟨eqO_ok c1, c2, k⟩
theorem At.prop (c : (At.p x m).ok K = true) : PropOf K (ga K x) m (ma K (ga K x) m) (rec0 K (ma K (ga K x) m) "property") := by
  obtain ⟨c1, c⟩ := ba c
  obtain ⟨c2, c⟩ := ba c
  obtain ⟨c3, c4⟩ := ba c
  exact ⟨eqO_ok c1, eqO_ok c2, of_decide_eq_true c3, hdB_ok c4⟩
end
structure DefP where
  at_ : At
  name : Str
  qual : Str
  st : Stmt
  dfl : List Dv := []
def fnP (K : Frag) (a : Addr) : FnW := match K.lookup a with
  | some ⟨_, _, .func fd, _⟩ => some (fd.name, fd.qualname, fd.params, fd.body, fd.scope, fd.globals, fd.closure, fd.builtins)
  | _ => none
def DefP.val (d : DefP) : FnW := some (d.name, d.qual, defArgs d.st, .stmts (defBody d.st), defScope d.st, mainGlobals, [], builtinsNs)
def DefP.dvs (K : Frag) (d : DefP) : List V := d.dfl.map (Dv.v K)
def DefP.ok (K : Frag) (d : DefP) : Bool := d.at_.ok K && (keepIn K (.ref (d.at_.a K)) && (match K.lookup (d.at_.a K) with
  | some ⟨_, _, .func fd, _⟩ => codeIn K fd.code d.qual && dflB K fd.defaults (d.dvs K)
  | _ => false))
theorem DefP.funD {K : Frag} {d : DefP} (e : fnP K (d.at_.a K) = d.val) (c : d.ok K = true) : d.at_.ok K = true ∧ ∃ fd, FunD K d.name d.qual (defArgs d.st) (defBody d.st) (defScope d.st) (d.dvs K) [] (d.at_.a K) fd := by
  obtain ⟨ca, c⟩ := ba c
  obtain ⟨kp, c2⟩ := ba c
  refine ⟨ca, ?_⟩
  unfold fnP at e
  cases q : K.lookup (d.at_.a K) with
  | none =>
    rw [q] at c2
    cases c2
  | some o =>
    obtain ⟨oc, od, dt, osl⟩ := o
    rw [q] at c2 e
    cases dt with
    | func fd =>
      obtain ⟨n1, n2, n3, n4, n5, n6, n7, n8, n9, n10, n11, n12, n13, n14, n15⟩ := fd
      have e2 : (some (n1, n2, n3, n4, n5, n6, n7, n15) : FnW) = some (d.name, d.qual, defArgs d.st, .stmts (defBody d.st), defScope d.st, mainGlobals, [], builtinsNs) := e
      simp only [Option.some.injEq, Prod.mk.injEq] at e2
      obtain ⟨h1, h2, h3, h4, h5, h6, h7, h8⟩ := e2
      subst h1 h2 h3 h4 h5 h6 h7 h8
      have c3 : (codeIn K n13 d.qual && dflB K n8 (d.dvs K)) = true := c2
      obtain ⟨k1, k3⟩ := ba c3
      exact ⟨_, ⟨oc, od, n8, n9, n10, n11, n12, n13, n14, osl, rfl, q, k1, dflB_ok k3, .inl rfl⟩, kp⟩
    | _ => cases c2
/-- without defaults -/
theorem FunD.toFun {K : Frag} {x qual : Str} {st : Stmt} {f : Addr} {fd : FuncData} (F : FunD K x qual (defArgs st) (defBody st) (defScope st) [] [] f fd) : Fun K x qual st f fd := by
  obtain ⟨⟨oc, od, dV, kV, doc, pm, an, cdv, ct, osl, e, lk, hcd, hD, hK⟩, kp⟩ := F
  rcases hD with ⟨_, rfl⟩ | ⟨z, _⟩
  · exact ⟨⟨oc, od, kV, doc, pm, an, cdv, ct, osl, e, lk, hcd⟩, kp⟩
  · exact absurd rfl z
abbrev AlP : Type := Bool × List FnW
def obsP (fn : List DefP) (ex : Frag → Bool) (K : Frag) : AlP := (ex K && fn.all fun d => d.ok K, fn.map fun d => fnP K (d.at_.a K))
def valP (fn : List DefP) : AlP := (true, fn.map DefP.val)
def SaysP (fn : List DefP) (ex : Frag → Bool) (K : Frag) : Prop := obsP fn ex K = valP fn
/-- what the names reach, and the interpreter's own statics -/
def asP (g : Addr → Option Obj) (n : Nat) : List Addr := asD g n ++ [cStatics]
def obsPG (n : Nat) (fn : List DefP) (ex : Frag → Bool) (g : Addr → Option Obj) : AlP := obsP fn ex (frG g (asP g n))
def hookP (n : Nat) (fn : List DefP) (ex : Frag → Bool) : Hook where
  α := AlP
  obs := fun s => obsPG n fn ex s.heap.get?
  val := fun _ => valP fn
  says := fun _ h => ∃ K : Frag, K.In h ∧ SaysP fn ex K
  of := fun _ _ e => ⟨_, frG_in, e⟩
  keeps := fun _ _ _ ⟨K, hK, c⟩ k => ⟨K, Frag.In.keeps hK k, c⟩
theorem obsPG_eq {n : Nat} {fn : List DefP} {ex : Frag → Bool} {g : Addr → Option Obj} {s : Shared} (h : ∀ a, g a = s.heap.get? a) : obsPG n fn ex g = (hookP n fn ex).obs s := by
  have e : g = s.heap.get? := funext h
  rw [e] <;> rfl
section
variable {fn : List DefP} {ex : Frag → Bool} {K : Frag}
theorem SaysP.more (c : SaysP fn ex K) : ex K = true := (ba (show (ex K && fn.all fun d => d.ok K) = true from congrArg (fun z : AlP => z.1) c)).1
theorem SaysP.def_ (c : SaysP fn ex K) (i : Nat) {d : DefP} (h : fn[i]? = some d := by rfl) : d.at_.ok K = true ∧ ∃ fd, FunD K d.name d.qual (defArgs d.st) (defBody d.st) (defScope d.st) (d.dvs K) [] (d.at_.a K) fd := by
  have c2 := (ba (show (ex K && fn.all fun d => d.ok K) = true from congrArg (fun z : AlP => z.1) c)).2
  have e : fn.map (fun d => fnP K (d.at_.a K)) = fn.map DefP.val := congrArg (fun z : AlP => z.2) c
  have e2 : (fn.map fun d => fnP K (d.at_.a K))[i]? = (fn.map DefP.val)[i]? := by rw [e]
  rw [List.getElem?_map, List.getElem?_map, h] at e2
  exact DefP.funD (Option.some.inj e2) (List.all_eq_true.mp c2 d (List.mem_of_getElem? h))
end
/-- the plain def at x: what is known of it -/
structure Got (K : Frag) (mg : Str → Option Value) (x : Str) (st : Stmt) (f : Addr) (fd : FuncData) : Prop where
  F : Fun K x x st f fd
  m : mg x = some (.ref f)
/-- the method m of class x -/
structure GotM (K : Frag) (C : Addr) (m qual : Str) (st : Stmt) (f : Addr) (fd : FuncData) : Prop where
  F : Fun K m qual st f fd
  o : OwnOp K C f m
structure GotP (K : Frag) (C : Addr) (m qual : Str) (st : Stmt) (p f : Addr) (fd : FuncData) : Prop where
  F : Fun K m qual st f fd
  o : PropOf K C m p f
section
variable {fn : List DefP} {ex : Frag → Bool} {K : Frag} {h : Heap} {mg : Str → Option Value} {x m qual : Str} {st : Stmt}
theorem SaysP.glo (c : SaysP fn ex K) (X : K.In h) (G : h.Ns mainGlobals mg) (i : Nat) (e : fn[i]? = some ⟨.g x, x, x, st, []⟩) : ∃ f fd, Got K mg x st f fd := by
  obtain ⟨a, fd, F⟩ := c.def_ i e
  exact ⟨_, fd, ⟨FunD.toFun F, At.glo X G a⟩⟩
theorem SaysP.meth (c : SaysP fn ex K) (i : Nat) (e : fn[i]? = some ⟨.m x m, m, qual, st, []⟩) : ∃ f fd, GotM K (ga K x) m qual st f fd := by
  obtain ⟨a, fd, F⟩ := c.def_ i e
  exact ⟨_, fd, ⟨FunD.toFun F, At.own a⟩⟩
theorem SaysP.prop (c : SaysP fn ex K) (i : Nat) (e : fn[i]? = some ⟨.p x m, m, qual, st, []⟩) : ∃ p f fd, GotP K (ga K x) m qual st p f fd := by
  obtain ⟨a, fd, F⟩ := c.def_ i e
  exact ⟨_, _, fd, ⟨FunD.toFun F, At.prop a⟩⟩
end
section
variable {Z : Cz} {CX : CXT} {k : Nat} {C : Addr} {ps : List Str} {sp : Sp} {x m qual : Str} {st : Stmt} {p f : Addr} {fd : FuncData}
theorem Got.cal (g : Got Z.K Z.mg x st f fd) (G : Z.ok CX k f fd ps sp) (b : Binds Z.K fd ps []) : Cal Z CX k x ps [] sp := ⟨f, fd, [], G, g.m, g.F.kp, b, .nil⟩
theorem GotM.calS (g : GotM Z.K C m qual st f fd) (G : Z.ok CX k f fd ps sp) (b : Binds Z.K fd ps []) : CalS Z CX k C m ps sp := ⟨f, fd, G, g.o, b⟩
theorem GotM.calM (g : GotM Z.K C m qual st f fd) (cl : Cls Z.K C) (G : Z.ok CX k f fd ps sp) (b : Binds Z.K fd ps []) : CalM Z CX k C m ps [] sp := ⟨f, fd, [], G, ⟨g.o.fn, g.o.isf, g.F.kp⟩, cl, b, .nil⟩
theorem GotP.calP (g : GotP Z.K C m qual st p f fd) (cl : Cls Z.K C) (G : Z.ok CX k f fd ["self"] sp) (b : Binds Z.K fd ["self"] []) : CalP Z CX k C m sp := ⟨p, f, fd, [], G, g.o, cl, b, .nil⟩
end
/-! ### Bools of further facts -/
def numB (K : Frag) (C : Addr) (nm : String) : Bool := findB K C (PySem.dunder nm) && (findB K C (dunderR nm) && ((findIn K (.type "int") (PySem.dunder nm)).isSome && ((findIn K (.type "int") (dunderR nm)).isSome && (decide (subIn K (.type "int") (.ref C) = some false) && decide (subIn K (.ref C) (.type "int") = some false)))))
theorem numB_ok {K : Frag} {C : Addr} {nm : String} (c : numB K C nm = true) : NumF K C nm := by
  obtain ⟨c1, c⟩ := ba c
  obtain ⟨c2, c⟩ := ba c
  obtain ⟨c3, c⟩ := ba c
  obtain ⟨c4, c⟩ := ba c
  obtain ⟨c5, c6⟩ := ba c
  exact ⟨⟨_, eqO_ok c1⟩, ⟨_, eqO_ok c2⟩, Option.isSome_iff_exists.mp c3, Option.isSome_iff_exists.mp c4, of_decide_eq_true c5, of_decide_eq_true c6⟩
def freeB (K : Frag) (xs : List Str) : Bool := xs.all fun x => eqO (nsIn K mainGlobals x) (some none)
theorem freeB_ok {K : Frag} {h : Heap} {mg : Str → Option Value} (X : K.In h) (G : h.Ns mainGlobals mg) {xs : List Str} (c : freeB K xs = true) {x : Str} (hx : x ∈ xs) : mg x = none := mg_none_of X G (eqO_ok (List.all_eq_true.mp c x hx))
end Ps

/-! What the names reach, gathered in rounds: the seen addresses are a Nat's bits (the kernel's own arithmetic), each object is looked at once. -/
namespace Ps
open PySem PySem.Spec PyProof.Rows PySem.W L2 He

section
variable {α : Type} (g : Addr → Option Obj)
def inQ (k : Nat → Frag → List Addr → α) : List Addr → Nat → Frag → List Addr → α
  | [], v, acc, nx => k v acc nx
  | a :: r, v, acc, nx => HandSHeadRun.frNat a fun a => match Nat.land (Nat.shiftRight v a) 1 with
    | 0 => (match g a with
      | some o => HandSHeadRun.frNat (Nat.lor v (Nat.shiftLeft 1 a)) fun v => inQ k r v ((a, o) :: acc) (refsD o ++ nx)
      | none => inQ k r v acc nx)
    | _ + 1 => inQ k r v acc nx
def outQ (k : Frag → α) : Nat → List Addr → Nat → Frag → α
  | 0, l, v, acc => inQ g (fun _ acc _ => k acc) l v acc []
  | n + 1, l, v, acc => inQ g (fun v acc nx => outQ k n nx v acc) l v acc []
def GoodQ (acc : Frag) : Prop := ∀ a o, acc.lookup a = some o → g a = some o
variable {g}
theorem GoodQ.cons {acc : Frag} {a : Addr} {o : Obj} (h : GoodQ g acc) (e : g a = some o) : GoodQ g ((a, o) :: acc) := fun b o' q => by
  have q2 : (match b == a with | true => some o | false => acc.lookup b) = some o' := q
  cases z : (b == a) with
  | true =>
    rw [z] at q2
    have eo : o = o' := Option.some.inj q2
    rw [beq_iff_eq.mp z, e, eo]
  | false =>
    rw [z] at q2
    exact h _ _ q2
theorem inQ_ok {Φ : α → Prop} {k : Nat → Frag → List Addr → α} (hk : ∀ v acc nx, GoodQ g acc → Φ (k v acc nx)) : ∀ (l : List Addr) (v : Nat) (acc : Frag) (nx : List Addr), GoodQ g acc → Φ (inQ g k l v acc nx)
  | [], v, acc, nx, h => hk v acc nx h
  | a :: r, v, acc, nx, h => by
    unfold inQ
    rw [HandSHeadRun.frNat_eq]
    cases Nat.land (Nat.shiftRight v a) 1 with
    | zero =>
      show Φ (match g a with
        | some o => HandSHeadRun.frNat (Nat.lor v (Nat.shiftLeft 1 a)) fun v => inQ g k r v ((a, o) :: acc) (refsD o ++ nx)
        | none => inQ g k r v acc nx)
      cases e : g a with
      | none => exact inQ_ok hk r v acc nx h
      | some o =>
        show Φ (HandSHeadRun.frNat (Nat.lor v (Nat.shiftLeft 1 a)) fun v => inQ g k r v ((a, o) :: acc) (refsD o ++ nx))
        rw [HandSHeadRun.frNat_eq]
        exact inQ_ok hk r _ _ _ (h.cons e)
    | succ n => exact inQ_ok hk r v acc nx h
theorem outQ_ok {Φ : α → Prop} {k : Frag → α} (hk : ∀ acc, GoodQ g acc → Φ (k acc)) : ∀ (n : Nat) (l : List Addr) (v : Nat) (acc : Frag), GoodQ g acc → Φ (outQ g k n l v acc)
  | 0, l, v, acc, h => inQ_ok (fun _ acc _ q => hk acc q) l v acc [] h
  | n + 1, l, v, acc, h => inQ_ok (fun v acc nx q => outQ_ok hk n nx v acc q) l v acc [] h
end
def obsQG (n : Nat) (fn : List DefP) (ex : Frag → Bool) (g : Addr → Option Obj) : AlP := outQ g (obsP fn ex) n [mainGlobals] 0 (frG g [cStatics])
theorem goodQ_nil {g : Addr → Option Obj} (as : List Addr) : GoodQ g (frG g as) := fun _ _ e => frG_at as e
def hookQ (n : Nat) (fn : List DefP) (ex : Frag → Bool) : Hook where
  α := AlP
  obs := fun s => obsQG n fn ex s.heap.get?
  val := fun _ => valP fn
  says := fun _ h => ∃ K : Frag, K.In h ∧ SaysP fn ex K
  of := fun _ s e => outQ_ok (g := s.heap.get?) (Φ := fun z => z = valP fn → ∃ K : Frag, K.In s.heap ∧ SaysP fn ex K) (fun acc q z => ⟨acc, q, z⟩) n _ 0 _ (goodQ_nil _) e
  keeps := fun _ _ _ ⟨K, hK, c⟩ k => ⟨K, Frag.In.keeps hK k, c⟩
theorem obsQG_eq {n : Nat} {fn : List DefP} {ex : Frag → Bool} {g : Addr → Option Obj} {s : Shared} (h : ∀ a, g a = s.heap.get? a) : obsQG n fn ex g = (hookQ n fn ex).obs s := by
  have e : g = s.heap.get? := funext h
  rw [e] <;> rfl
end Ps

/-! Static methods called by the class's name. -/
namespace Ps
open PySem PySem.Spec PyProof.Rows PySem.W L2 He

/-- C.m is a static method: its record at p, its def at g -/
structure StM (K : Frag) (C : Addr) (m : Str) (p g : Addr) : Prop where
  rd : readsIn K C (.type "type") = true
  ga : specialIn K (.ref C) "__getattribute__" = some (some (.builtin "type.__getattribute__"))
  at_ : findCls K (.ref C) (.type "type") m = some (.get (.builtin "staticmethod.__get__") (.ref p) .none (.ref C))
  rc : ∃ rest, recIn K p "staticmethod" = some (.ref g :: rest)
  kp : keepIn K (.ref g) = true
def CalT (Z : Cz) (CX : CXT) (k : Nat) (C : Addr) (m : Str) (sp : Sp) : Prop := ∃ p g, FnR Z.P Z.w Z.K Z.mg Z.base CX k g sp ∧ StM Z.K C m p g
def tSMeth (C : Addr) (sp : Sp) (E : XK) (ta : TE) (t : TA) : TE := fun σ H Q => ta σ H fun x H1 => x = .ref C ∧ t σ H1 fun vs H2 => sp vs H2 Q E
section
variable {Z : Cz} {X : Cx} {CX : CXT} {k : Nat} {C : Addr} {sp : Sp} {E : XK} {o e : Expr} {es : List Expr} {m : Str} {pos apos : Pos} {ta : TE} {t : TA} {pl : Sem Bool}
theorem getsm_ok {p g : Addr} {pins : List (Addr × Obj)} {σ : L2.St} {H : Hp} {s : Shared} {A : Around} {Er : Value → Shared → Prop} {Q : Value × List Value → Shared → Prop} (I : L2.Inv X pins σ H s) (r : StM X.K C m p g)
    (h : ∀ s', L2.Inv X pins σ H s' → Q (.ref g, []) s') : wpAny (model X.prog X.w) A (getMethod (.ref C) m pl) Q Er s := by
  obtain ⟨rest, hp⟩ := r.rc
  refine method_cls I.kIn r.ga ?_
  refine cls_bind I.kIn r.rd r.at_ ?_
  refine wpAny_call (sm_get (s := { s with toks := s.toks + 1 }) I.kIn hp (handed_on rfl ?_))
  exact h _ (I.tok _)
theorem pe_calT (c : CalT Z CX k C m sp) (hr : Room k X.A) (hx : Passes CX X E) (he : PE X o ta) (ha : PA X (e :: es) t) (z : InZ Z X := by exact ⟨rfl, rfl, rfl, rfl, rfl⟩)
    (hst : starEach (e :: es) X.env = (false, eval e X.env) :: starEach es X.env := by rfl) (hpl : (backTo pos (starEach es X.env)).any (·.1) = false := by rfl)
    (ht : eval (.Call (.Attribute o m apos) (e :: es) [] pos) X.env = (do
      let ov ← eval o X.env
      standAt apos.atName
      let (f, first) ← holding [ov] (getMethod ov m pl)
      callWith pos f first (backTo pos (starEach (e :: es) X.env)) (backToKw pos (keywordEach [] X.env))) := by rfl) :
    PE X (.Call (.Attribute o m apos) (e :: es) [] pos) (tSMeth C sp E ta t) := by
  obtain ⟨p, g, F, r⟩ := c
  obtain ⟨e1, e2, e3, e4, e5⟩ := z
  have F' : FnR X.prog X.w X.K X.mg X.base CX k g sp := by rw [e1, e2, e3, e4, e5]; exact F
  rw [← e3] at r
  refine ⟨fun pins s σ H Q I h => ?_⟩
  refine methodCall_KW (pl := pl) (thn (he.run pins s σ H _ I h) fun u s1 ⟨x, H1, I1, rx, ex, q⟩ => ?_) ht
  subst ex
  obtain rfl : u = Value.ref C := rx
  refine getsm_ok I1 r fun s2 I2 => ?_
  refine callWith_K (h₀ := X.base) I2.ok.mod.kin r.kp (thn (ha.run pos _ s2 σ H1 _ I2 q) fun us s3 ⟨vs, H2, I3, rv, q2⟩ => ⟨I3.kIn, ?_⟩) hst hpl
  exact wpAny_call (run_fnR F' hr hx I3 rv q2)
theorem pe_calT0 (c : CalT Z CX k C m sp) (hr : Room k X.A) (hx : Passes CX X E) (he : PE X o ta) (z : InZ Z X := by exact ⟨rfl, rfl, rfl, rfl, rfl⟩)
    (ht : eval (.Call (.Attribute o m apos) [] [] pos) X.env = (do
      let ov ← eval o X.env
      standAt apos.atName
      let (f, first) ← holding [ov] (getMethod ov m pl)
      callWith pos f first (backTo pos (starEach [] X.env)) (backToKw pos (keywordEach [] X.env))) := by rfl) :
    PE X (.Call (.Attribute o m apos) [] [] pos) (tSMeth C sp E ta tNil) := by
  obtain ⟨p, g, F, r⟩ := c
  obtain ⟨e1, e2, e3, e4, e5⟩ := z
  have F' : FnR X.prog X.w X.K X.mg X.base CX k g sp := by rw [e1, e2, e3, e4, e5]; exact F
  rw [← e3] at r
  refine ⟨fun pins s σ H Q I h => ?_⟩
  refine methodCall_KW (pl := pl) (thn (he.run pins s σ H _ I h) fun u s1 ⟨x, H1, I1, rx, ex, q⟩ => ?_) ht
  subst ex
  obtain rfl : u = Value.ref C := rx
  refine getsm_ok I1 r fun s2 I2 => ?_
  refine callWith_K0 I2.kIn r.kp ?_
  exact wpAny_call (run_fnR F' hr hx I2 (us := []) (vs := []) .nil q)
end
/-! behind the top -/
def statB (K : Frag) (x m : Str) : Bool := readsIn K (ga K x) (.type "type") && (eqO (specialIn K (.ref (ga K x)) "__getattribute__") (some (some (.builtin "type.__getattribute__"))) &&
  (match findCls K (.ref (ga K x)) (.type "type") m with
    | some (.get (.builtin b) (.ref p) .none (.ref c)) => decide (b = "staticmethod.__get__") && (decide (p = ma K (ga K x) m) && decide (c = ga K x))
    | _ => false))
theorem statB_ok {K : Frag} {x m : Str} (c : statB K x m = true) (a : (At.sm x m).ok K = true) (k : keepIn K (.ref ((At.sm x m).a K)) = true) : StM K (ga K x) m (ma K (ga K x) m) ((At.sm x m).a K) := by
  obtain ⟨c1, c⟩ := ba c
  obtain ⟨c2, c3⟩ := ba c
  obtain ⟨a1, a2⟩ := ba a
  refine ⟨c1, eqO_ok c2, ?_, hdB_ok a2, k⟩
  split at c3
  · rename_i b p c' e
    obtain ⟨d1, d⟩ := ba c3
    obtain ⟨d2, d3⟩ := ba d
    rw [e, of_decide_eq_true d1, of_decide_eq_true d2, of_decide_eq_true d3]
  · cases c3
theorem SaysP.stat {fn : List DefP} {ex : Frag → Bool} {K : Frag} {x m qual : Str} {st : Stmt} (c : SaysP fn ex K) (i : Nat) (e : fn[i]? = some ⟨.sm x m, m, qual, st, []⟩) (h : statB K x m = true) : ∃ p g fd, StM K (ga K x) m p g ∧ Fun K m qual st g fd := by
  obtain ⟨a, fd, F⟩ := c.def_ i e
  exact ⟨_, _, fd, statB_ok h a F.kp, FunD.toFun F⟩
/-- def m(*v) -/
theorem Fun.star0 {Z : Cz} {x qual pv : Str} {st : Stmt} {f : Addr} {fd : FuncData} {N : List Str} {k : Nat} {sp : Sp} {CX : CXT} (F : Fun Z.K x qual st f fd) (S : FnScope N [pv] (defScope st)) (hCX : StX.CXUp CX)
    (h0 : ∀ (kV doc pm : Value) (an : Option Addr) (cdv ct : Value), bindArgs (fnOf x qual (defArgs st) (defBody st) (defScope st) .none kV doc pm an cdv ct) ⟨[], []⟩ = (newTuple [] >>= fun t => pure [(pv, t)]))
    (h1 : ∀ (kV doc pm : Value) (an : Option Addr) (cdv ct : Value) (r : Value) (rs : List Value), bindArgs (fnOf x qual (defArgs st) (defBody st) (defScope st) .none kV doc pm an cdv ct) ⟨r :: rs, []⟩ = (newTuple (r :: rs) >>= fun t => pure [(pv, t)]))
    (hbody : ∀ (cdv : Value) (A : Around) (outer : List Env) (s : Shared) (H : Hp) (vs : List V) (Q : VK) (E : XK), Room k (A.deeper (envOfC qual (defScope st) s.heap.objs.size f cdv)) → sp vs H Q E →
      ∃ t, PSs (cxOf CX Z.P Z.w Z.K Z.mg Z.base N qual (defScope st) f cdv A outer s H E) (defBody st) t ∧ t { nx := fun _ H' => Q .non H', rt := Q } (start N vs) H) :
    FnR Z.P Z.w Z.K Z.mg Z.base CX (k + 1) f (fun vs H Q E => vs.length ≤ sizeLine ∧ ∀ p, H p = none → sp [V.ref p] (upd H p (.tup vs)) Q E) := by
  obtain ⟨oc, od, kV, doc, pm, an, cdv, ct, osl, rfl, lk, hcd⟩ := F.ex
  have G := StX.fn_star (ps := []) (pv := pv) (sp := sp) (k := k) (P := Z.P) (w := Z.w) (mg := Z.mg) (base := Z.base) lk hcd S hCX (fun us rest hl => match us, rest, hl with | [], [], _ => h0 kV doc pm an cdv ct | [], r :: rs, _ => h1 kV doc pm an cdv ct r rs) (fun A outer s H vs Q E hr hsp => hbody cdv A outer s H vs Q E hr hsp)
  exact G.imp fun vs H Q E ⟨hl, h⟩ => ⟨[], vs, rfl, rfl, hl, h⟩
end Ps

/-! Common words of the laws about shares. -/
namespace Ps
open PySem PySem.Spec PyProof.Rows PySem.W L2

/-- two rules of one operator -/
theorem op_both {X : Cx} {f : Value → Value → Sem Value} {r1 r2 : R2} (h1 : OpR X f r1) (h2 : OpR X f r2) : OpR X f (fun x y H Q => r1 x y H Q ∨ r2 x y H Q) := by
  intro pins s σ H x y v u Q I rx ry h
  rcases h with h | h
  · exact h1 pins s σ H x y v u Q I rx ry h
  · exact h2 pins s σ H x y v u Q I rx ry h
/-- a test, with a word behind it -/
def tCutT (t : TT) : TT := fun σ H Q => ∃ Mid : Bool → Hp → Prop, t σ H Mid ∧ ∀ b H', Mid b H' → Q b H'
theorem pt_cut {X : Cx} {e : Expr} {t : TT} (h : PT X e t) : PT X e (tCutT t) := by
  refine ⟨fun pins s σ H Q I q => ?_⟩
  obtain ⟨Mid, hm, hq⟩ := q
  exact thn (h.run pins s σ H Mid I hm) fun d s1 ⟨H1, I1, q1⟩ => ⟨H1, I1, hq _ _ q1⟩

theorem mk_shI {C x dx : Addr} {H : Hp} {Q2 : VK} {E : XK} {t u : Int} (hu : u ≠ 0) (hb : u.natAbs < 2 ^ 9000) (hx : H x = none) (hdx : H dx = none) (hne : dx ≠ x) (k : ∀ H', Same H H' → Sh C H' (.ref x) (low t u) → Q2 .non H') :
    spShInit C [.ref x, .int t, .int u] (upd (upd H dx (.own x)) x (.ins C dx [])) Q2 E := by
  refine ⟨x, dx, t, u, rfl, upd_same, hu, hb, fun H' h1 h2 => ?_⟩
  refine k H' (fun b o e => ?_) ⟨x, dx, rfl, h2⟩
  rw [h1 b (ne_of_none e hx), upd_ne (ne_of_none e hx), upd_ne (ne_of_none e hdx)]
  exact e
def pair (q : Int × Int) : List V := [.int q.1, .int q.2]
/-- a new list -/
def NewL (H : Hp) (Q : VK) (xs : List V) : Prop := ∀ p H', Same H H' → H p = none → H' p = some (.lst xs) → Q (.ref p) H'
theorem NewL.here {H H1 : Hp} {Q : VK} {xs : List V} (k : NewL H Q xs) (e : Same H H1) {p : Addr} (hp : H1 p = none) : Q (.ref p) (upd H1 p (.lst xs)) :=
  k p _ (e.trans (Same.upd hp)) (e.free hp) upd_same
theorem pair_dp {K : Frag} {H : Hp} {p : Addr} {q : Int × Int} (h : H p = some (.lst (pair q))) : Dp K H (.ref p) (.list [.int q.1, .int q.2]) := .lst (SqL.of h) (.cons (.int _) (.cons (.int _) .nil))

theorem gAdd_comm (q r : Int × Int) : gAdd q r = gAdd r q := by
  unfold gAdd
  rw [Int.add_comm, Int.mul_comm q.2]
theorem gMul_comm (q r : Int × Int) : gMul q r = gMul r q := by
  unfold gMul
  rw [Int.mul_comm q.1, Int.mul_comm q.2]
theorem Sz.low {n : Nat} {q : Int × Int} (h : Sz n q) : Sz n (Ps.low q.1 q.2) :=
  ⟨Int.ne_of_gt (low_pos h.ne), Nat.lt_of_le_of_lt (low_le1 h.ne) h.t, Nat.lt_of_le_of_lt (low_le2 h.ne) h.u⟩
theorem vne {i j : Int} (h : i ≠ j) : ¬ V.int i = V.int j := fun z => h (V.int.inj z)

theorem Sz.of_low {n : Nat} {t u : Int} (hu : u ≠ 0) (h1 : t.natAbs < 2 ^ n) (h2 : u.natAbs < 2 ^ n) : Sz n (Ps.low t u) :=
  ⟨Int.ne_of_gt (low_pos hu), Nat.lt_of_le_of_lt (low_le1 hu) h1, Nat.lt_of_le_of_lt (low_le2 hu) h2⟩
theorem add_lt {i j : Int} {n : Nat} (hi : i.natAbs < 2 ^ n) (hj : j.natAbs < 2 ^ n) : (i + j).natAbs < 2 ^ (n + 1) := by
  rw [Nat.pow_succ]
  omega
theorem Sz.add {n : Nat} {q r : Int × Int} (hq : Sz n q) (hr : Sz n r) : Sz (n + n + 1) (gAdd q r) :=
  Sz.of_low (Int.mul_ne_zero hq.ne hr.ne) (add_lt (wide_lt hq.t hr.u) (wide_lt hr.t hq.u)) (lt_up (wide_lt hq.u hr.u) (by omega))
theorem Sz.mul {n : Nat} {q r : Int × Int} (hq : Sz n q) (hr : Sz n r) : Sz (n + n) (gMul q r) :=
  Sz.of_low (Int.mul_ne_zero hq.ne hr.ne) (wide_lt hq.t hr.t) (wide_lt hq.u hr.u)
theorem Sz.by_ {n : Nat} {q r : Int × Int} (hq : Sz n q) (hr : Sz n r) (hn : r.1 ≠ 0) : Sz (n + n) (gBy q r) :=
  Sz.of_low (Int.mul_ne_zero hq.ne hn) (wide_lt hq.t hr.u) (wide_lt hq.u hr.t)
theorem shF_no (t u : Int) (m : Str) (h1 : (m == ("own_top" : Str)) = false) (h2 : (m == ("own_under" : Str)) = false) : (shF t u).lookup m = none := by
  unfold shF
  rw [List.lookup_cons, h1, List.lookup_cons, h2]
  rfl

theorem eqv_pair (q : Int × Int) : PyData.eqv (.list [.int q.1, .int q.2]) (.list [.int q.1, .int q.2]) = true := SeqAt.eqv_refl _ rfl
/-- all but p is as it was -/
def Keep (p : Addr) (H H' : Hp) : Prop := ∀ b, b ≠ p → ∀ o, H b = some o → H' b = some o
theorem Keep.refl (p : Addr) (H : Hp) : Keep p H H := fun _ _ _ h => h
theorem Keep.trans {p : Addr} {H H1 H2 : Hp} (a : Keep p H H1) (b : Keep p H1 H2) : Keep p H H2 := fun c hc o h => b c hc o (a c hc o h)
theorem Keep.of_same {p : Addr} {H H1 : Hp} (a : Same H H1) : Keep p H H1 := fun c hc o h => a c o h
theorem Keep.of_eq {p : Addr} {H H1 : Hp} (a : ∀ b, b ≠ p → H1 b = H b) : Keep p H H1 := fun c hc o h => by rw [a c hc]; exact h
theorem Keep.same {p : Addr} {H0 H H1 : Hp} (e : Same H0 H) (hp : H0 p = none) (a : Keep p H H1) : Same H0 H1 := fun b o h => a b (ne_of_none h hp) o (e b o h)
theorem Pool.new {H : Hp} {p q l : Addr} {ms : List Int} {i : Nat} {o : HO} (P : Pool H p q ms i) (hl : H l = none) : Pool (upd H l o) p q ms i :=
  ⟨by rw [upd_ne (ne_of_none P.at_ hl)]; exact P.at_, by rw [upd_ne (ne_of_none P.nums hl)]; exact P.nums, P.len, P.few⟩
theorem Pool.put {H : Hp} {p q l : Addr} {ms : List Int} {i : Nat} {o : HO} (P : Pool H p q ms i) (h1 : l ≠ p) (h2 : l ≠ q) : Pool (upd H l o) p q ms i :=
  ⟨by rw [upd_ne h1.symm]; exact P.at_, by rw [upd_ne h2.symm]; exact P.nums, P.len, P.few⟩
theorem Keep.put {p D : Addr} {H H1 : Hp} {o : HO} (k : Keep p H H1) (hD : H D = none) : Keep p H (upd H1 D o) := fun b hb u h => by
  rw [upd_ne (ne_of_none h hD)]
  exact k b hb u h
def spLaw (K : Frag) : Sp := fun vs H Q _ => ∃ (a : Addr) (ns : List Int), vs = [.ref a] ∧ SqL K H a (ns.map V.int) ∧ ns.length ≤ 63 ∧ ∀ H', Q (.bl true) H'
theorem small4000 {i : Int} (h : i.natAbs ≤ 1000) : i.natAbs < 2 ^ 4000 := lt_up (m := 10) (by omega) (by decide)
theorem two_of {ts : List Int} (h : ts.length = 2) : ∃ a b, ts = [a, b] := by
  match ts, h with
  | [a, b], _ => exact ⟨a, b, rfl⟩

/-- two lists, item by item -/
def Al {α : Type} (R : V → α → Prop) (vs : List V) (qs : List α) : Prop := vs.length = qs.length ∧ ∀ (i : Nat) (v : V) (q : α), vs[i]? = some v → qs[i]? = some q → R v q
section
variable {α : Type} {R S : V → α → Prop} {vs : List V} {qs : List α} {v : V} {q : α}
theorem Al.nil : Al R [] [] := ⟨rfl, fun i v q h => by simp at h⟩
theorem Al.imp (h : Al R vs qs) (k : ∀ v q, R v q → S v q) : Al S vs qs := ⟨h.1, fun i v q a b => k v q (h.2 i v q a b)⟩
theorem Al.snoc (h : Al R vs qs) (hv : R v q) : Al R (vs ++ [v]) (qs ++ [q]) := by
  refine ⟨by rw [List.length_append, List.length_append, h.1]; rfl, fun i a b ha hb => ?_⟩
  by_cases hi : i < vs.length
  · rw [List.getElem?_append_left hi] at ha
    rw [List.getElem?_append_left (by rw [← h.1]; exact hi)] at hb
    exact h.2 i a b ha hb
  · rw [List.getElem?_append_right (by omega)] at ha
    rw [List.getElem?_append_right (by rw [← h.1]; omega), ← h.1] at hb
    cases e : i - vs.length with
    | zero =>
      rw [e] at ha hb
      simp at ha hb
      subst ha; subst hb
      exact hv
    | succ j =>
      rw [e] at ha
      simp at ha
theorem Al.get (h : Al R vs qs) {i : Nat} (hv : vs[i]? = some v) : ∃ q, qs[i]? = some q ∧ R v q := by
  have hi : i < qs.length := by
    rw [← h.1]
    exact (List.getElem?_eq_some_iff.mp hv).1
  exact ⟨qs[i], List.getElem?_eq_getElem hi, h.2 i v _ hv (List.getElem?_eq_getElem hi)⟩
theorem Al.cons (hv : R v q) (h : Al R vs qs) : Al R (v :: vs) (q :: qs) := by
  refine ⟨by simp [h.1], fun i a b ha hb => ?_⟩
  cases i with
  | zero =>
    simp at ha hb
    subst ha; subst hb
    exact hv
  | succ j =>
    simp at ha hb
    exact h.2 j a b ha hb
theorem Al.uncons (h : Al R (v :: vs) (q :: qs)) : R v q ∧ Al R vs qs :=
  ⟨h.2 0 v q rfl rfl, by have := h.1; simpa using this, fun i a b ha hb => h.2 (i + 1) a b ha hb⟩
end
theorem take_more' {α : Type} {l : List α} {i : Nat} {x : α} (h : l[i]? = some x) : l.take (i + 1) = l.take i ++ [x] := by
  rw [List.take_succ, h]
  rfl
theorem Sz.add' {m n : Nat} {q r : Int × Int} (hq : Sz m q) (hr : Sz n r) : Sz (m + n + 1) (gAdd q r) :=
  Sz.of_low (Int.mul_ne_zero hq.ne hr.ne) (add_lt (wide_lt hq.t hr.u) (by rw [Nat.add_comm m n]; exact wide_lt hr.t hq.u)) (lt_up (wide_lt hq.u hr.u) (by omega))
theorem Sz.mul' {m n : Nat} {q r : Int × Int} (hq : Sz m q) (hr : Sz n r) : Sz (m + n) (gMul q r) :=
  Sz.of_low (Int.mul_ne_zero hq.ne hr.ne) (wide_lt hq.t hr.t) (wide_lt hq.u hr.u)
theorem Sz.sub' {m n : Nat} {q r : Int × Int} (hq : Sz m q) (hr : Sz n r) : Sz (m + n + 1) (gSub q r) := hq.add' hr.neg
end Ps

/-! Own errors over PlanError(Exception) whose __init__ keeps one field: made, raised, caught, read. -/
namespace Ps
open PySem PySem.W PySem.Calls PyProof.Rows PySem.HandSPX He

def xA (fl : Str) (p1 p2 : Pos) : Arguments := { posonlyargs := [], args := [{ arg := "self", annotation := none, pos := p1 }, { arg := fl, annotation := none, pos := p2 }], vararg := none, kwonlyargs := [], kw_defaults := [], kwarg := none, defaults := [] }
def xB (fl : Str) (q1 q2 q3 q4 : Pos) : List Stmt := [.Assign [.Attribute (.Name "self" q1) fl q2] (.Name fl q3) q4]
def xS (fl : Str) : Scope := { kind := .function, names := [(PySem.Str.ofString "self", .local), (fl, .local)], isGenerator := false, isCoroutine := false, more := [] }
/-- what the written part says of the error's class at C (its base at P), and of its __init__, at fI -/
structure ExT (K : Frag) (mg : Str → Option Value) (x fl qual : Str) (C P fI : Addr) : Prop where
  gC : mg x = some (.ref C)
  cls : ∃ nm q N bs sn sub ab col dd k0 k1 k2 k3 k5, K.lookup C = some (excClassObj nm q C N bs (.ref P :: ESX.exTail) true sn sub ab col dd k0 k1 k2 k3 k5 "Exception.__new__")
  sa : findIn K (.ref C) "__setattr__" = some (some (.builtin "object.__setattr__"))
  noN : findIn K (.ref C) fl = some none
  iC : findIn K (.ref C) "__init__" = some (some (.ref fI))
  tC : typeIn K (.ref fI) = some (.type "function")
  kC : keepIn K (.ref C) = true
  tyC : typeIn K (.ref C) = some (.type "type")
  xf : L2.XfC K C
  fn : ∃ (oc : Value) (od : Option Addr) (kV doc pm : Value) (an : Option Addr) (cdv ct : Value) (osl : Array (Option Value)) (p1 p2 q1 q2 q3 q4 : Pos),
    K.lookup fI = some ⟨oc, od, .func (fnOf "__init__" qual (xA fl p1 p2) (xB fl q1 q2 q3 q4) (xS fl) .none kV doc pm an cdv ct), osl⟩ ∧ codeIn K cdv qual = true
theorem one_size (v : Value) : [v].length ≤ sizeLine := by
  rw [sizeLine_eq]
  exact (by decide : 1 ≤ 16777216)
/-! ### self.f = f on a fresh error -/
section
open Builtin Builtin.ObjectAttr
variable {prog : Program} {w : World} {A : Around} {E : Value → Shared → Prop} {R : Result → Shared → Prop} {hp : Heap} {g : Array GenState} {d : Drawn} {t : Nat} {os : OsState}
theorem tailP_has {C P : Addr} (X : String) (hX : ESX.exTail.contains (.type X) = true) : (Value.ref C :: .ref P :: ESX.exTail).contains (.type X) = true := by
  rw [List.contains_cons, List.contains_cons, hX, Bool.or_true, Bool.or_true]
theorem tailP_eq {P : Addr} (X : String) : (Value.ref P :: ESX.exTail).contains (.type X) = ESX.exTail.contains (.type X) := by
  rw [List.contains_cons]
  rfl
theorem osa_P {K : Frag} {name : Str} {tk : Tok} {v : Value} {x C P : Addr} {fv : Array Value} {cd : ClassData}
    (X : K.In hp) (hx : hp.get? x = some { cls := .ref C, data := .fields fv }) (hcd : clsIn K C = some cd) (hm : cd.mro = .ref C :: .ref P :: ESX.exTail) (hh : cd.hasDict = true) (ha : findIn K (.ref C) name = some none)
    (hq : ∀ h' tk' dx, (∀ b o, b ≠ x → hp.get? b = some o → h'.get? b = some o) → hp.objs.size ≤ dx → dx ≠ x → h'.get? x = some { cls := .ref C, dict := some dx, data := .fields fv } →
      h'.Ns1 dx (fun y => if y = name then some v else none) → R (.ok (.ret .none)) ⟨h', g, d, tk', os⟩) :
    codeAny (model prog w) A (.call (.builtin "object.__setattr__") ⟨[.ref x, .str name tk, v], []⟩) R ⟨hp, g, d, t, os⟩ := by
  have I : InstAt hp x { cls := .ref C, data := .fields fv } C none := ⟨hx, rfl, rfl, trivial⟩
  have hxs : x ≠ hp.objs.size := Nat.ne_of_lt (Heap.lt_size hx)
  have SF := F.store_object
  have mro : mroIn K C (.type "object") = some true := by
    unfold mroIn
    rw [hcd, Option.bind_some, hm, if_neg (show ¬ (List.isEmpty (Value.ref C :: .ref P :: ESX.exTail) = true) from Bool.false_ne_true), tailP_has "object" (by decide +kernel)]
  have sub : Looks (model prog w) hp (isInstance (.ref x) (.type "object")) true := I.type.andThen (looks_mroIn X mro)
  refine codeAny_call_builtin SF.slot.plain SF.entry (@check_slot (model prog w) _ _ ⟨hp, g, d, t, os⟩ "object.__setattr__" "object" "__setattr__" (.ref x) [.str name tk, v] [] _ SF.kind SF.split sub (SF.args (.ref x) (.str name tk) v) ?_)
  have hmr : Looks (model prog w) hp (mroOf (.ref C)) cd.mro := (looks_clsIn X hcd).andThen .now
  have L3 : Looks (model prog w) hp (storeTaker? none) none := .now
  have hpass : refuseLoop (.ref x) "__setattr__" cd.mro = pure () := by
    rw [hm, refuseLoop_ref, refuseLoop_ref]
    exact F.store_Exception.passes _
  rw [osa_eq, refuse_eq]
  refine wpAny_bind (wpAny_bind (I.type.at (wpAny_bind (hmr.at ?_))))
  rw [hpass]
  refine wpAny_pure (wpAny_bind (I.type.at (wpAny_bind ((looks_findIn X ha).at (wpAny_bind (L3.at ?_))))))
  show wpAny _ _ (storeInOwnDict (.ref x) (.ref C) (.str name tk) name v false) _ _ _
  have hcls : Looks (model prog w) hp (classData C) cd := looks_clsIn X hcd
  obtain ⟨nm, bs, mro, ns, qn, hd, sn, sb, ab, col, del⟩ := cd
  dsimp only at hh
  subst hh
  unfold storeInOwnDict ownDictForStores
  repeat (first | with_reducible refine HandSPX.store_in_new ?_ ?_ | with_reducible refine wpAny_loadPart_at hx ?_ | with_reducible refine hcls.at ?_ | wp_step)
  · exact ⟨_, #[], _, (Heap.get?_update_ne _ _ _ _ hxs.symm).trans (Heap.get?_push_at rfl rfl), rfl, fun e he => absurd he (by simp), fun _ => rfl⟩
  · intro h' tk' hn' hs
    have hx₁ : (hp.push { cls := .type "dict", data := .dict #[] }).get? x = some { cls := .ref C, data := .fields fv } := Heap.get?_push_of_some _ hx
    refine hq h' tk' hp.objs.size (fun b o hb ho => ?_) (Nat.le_refl _) hxs.symm ?_ hn'
    · exact (hs.2 b (Nat.ne_of_lt (Heap.lt_size ho))).trans ((Heap.get?_update_ne _ _ _ _ hb).trans (Heap.get?_push_of_some _ ho))
    · exact (hs.2 x hxs).trans (Heap.get?_update_self _ hx₁ rfl)
end
theorem ldX {M : Model} {s : Shared} {name : Str} {scope : Scope} {L a : Addr} {cd : Value} {m : Str → Option Value} {x : Str} {pos : Pos} {v : Value} {Q : Value → Shared → Prop} {A : Around} {E : Value → Shared → Prop} (hn : s.heap.Ns L m) (hv : m x = some v) (h : Q v s)
    (hl : (envOfC name scope L a cd).kindOf x = some .local) (hd : (x == ("__debug__" : Str)) = false) (hk : scope.kind = .function := by rfl) :
    wpAny M A (eval (.Name x pos) (envOfC name scope L a cd)) Q E s := wpAny_Name (wpAny_loadName_local hk hl hn hv h) hd
/-- what __init__ leaves of a fresh error at x -/
structure XInit (h h' : Heap) (x C dx t1 : Addr) (fl : Str) (v : Value) : Prop where
  keep : ∀ b o, b ≠ x → h.get? b = some o → h'.get? b = some o
  obj : h'.get? x = some { cls := .ref C, dict := some dx, data := .fields #[.ref t1, .none, .none, .none, .bool false, .none] }
  dbig : h.objs.size ≤ dx
  dne : dx ≠ x
  ns : h'.Ns1 dx (fun y => if y = fl then some v else none)
/-- a made error -/
structure XMade (h h' : Heap) (e C d : Addr) (fl : Str) (v : Value) : Prop where
  keep : ∀ b o, h.get? b = some o → h'.get? b = some o
  new : h.objs.size ≤ e
  obj : ∃ t1, h'.get? e = some { cls := .ref C, dict := some d, data := .fields #[.ref t1, .none, .none, .none, .bool false, .none] }
  dbig : h.objs.size ≤ d
  dne : d ≠ e
  ns : h'.Ns1 d (fun y => if y = fl then some v else none)
/-- a field's name that is no special one -/
structure FlOk (fl : Str) : Prop where
  bind : ∀ (qual : Str) (p1 p2 : Pos) (b : List Stmt) (sc : Scope) (kV doc pm : Value) (an : Option Addr) (cdv ct a v : Value), bindArgs (fnOf "__init__" qual (xA fl p1 p2) b sc .none kV doc pm an cdv ct) ⟨[a, v], []⟩ = pure [(("self" : Str), a), (fl, v)]
  all_ : ∀ a v : Value, ([(("self" : Str), a), (fl, v)].all fun y => List.lookup y.fst (xS fl).names == some NameKind.local || List.lookup y.fst (xS fl).names == some NameKind.cell) = true
  bf : ∀ (qual : Str) (L f : Addr) (cdv a v : Value), bindL (envOfC qual (xS fl) L f cdv).kindOf [(("self" : Str), a), (fl, v)] (fun _ => none) fl = some v
  bs : ∀ (qual : Str) (L f : Addr) (cdv a v : Value), bindL (envOfC qual (xS fl) L f cdv).kindOf [(("self" : Str), a), (fl, v)] (fun _ => none) "self" = some a
  ks : ∀ (qual : Str) (L f : Addr) (cdv : Value), (envOfC qual (xS fl) L f cdv).kindOf "self" = some .local
  kf : ∀ (qual : Str) (L f : Addr) (cdv : Value), (envOfC qual (xS fl) L f cdv).kindOf fl = some .local
  dbg : (fl == ("__debug__" : Str)) = false
theorem fl_value : FlOk "value" := ⟨fun _ _ _ _ _ _ _ _ _ _ _ _ _ => rfl, fun _ _ => rfl, fun _ _ _ _ _ _ => rfl, fun _ _ _ _ _ _ => rfl, fun _ _ _ _ => rfl, fun _ _ _ _ => rfl, by decide⟩
section
variable {prog : Program} {w : World} {A : Around} {E : Value → Shared → Prop} {R : Result → Shared → Prop} {s : Shared} {K : Frag} {mg : Str → Option Value} {x0 fl qual : Str} {C P fI : Addr}
theorem x_init (T : ExT K mg x0 fl qual C P fI) (hf : FlOk fl) {x t0 : Addr} {v : Value} (X : K.In s.heap) (hlim : s.heap.NoLimit) (hx : s.heap.get? x = some (excO C t0)) (hroom : A.depth < recursionLimit)
    (hq : ∀ h' tk dx, XInit s.heap h' x C dx t0 fl v → R (.ok (.ret .none)) { s with heap := h', toks := tk }) :
    codeAny (model prog w) A (.call (.ref fI) ⟨[.ref x, v], []⟩) R s := by
  obtain ⟨oc, od, kV, doc, pm, an, cdv, ct, osl, p1, p2, q1, q2, q3, q4, ho, hcd⟩ := T.fn
  obtain ⟨nm, q, N, bs, sn, sub, ab, col, dd, k0, k1, k2, k3, k5, hC⟩ := T.cls
  have hcl : clsIn K C = some { name := nm, bases := bs, mro := .ref C :: .ref P :: ESX.exTail, ns := N, qualname := q, hasDict := true, slotNames := sn, subclasses := sub, abstract := ab, collection := col, hasDel := false } := by unfold clsIn; rw [hC] <;> rfl
  refine Att.call_fn (binds := [("self", .ref x), (fl, v)]) X hlim ho hcd hroom (BindsTo.of_eq (hf.bind _ _ _ _ _ _ _ _ _ _ _ _ _)) (hf.all_ _ _) (fun s₁ IC => ?_) rfl rfl rfl
  obtain ⟨h₁, tk₁, rfl⟩ := IC.toInCall.same
  have k : ∀ b o, s.heap.get? b = some o → h₁.get? b = some o := IC.toInCall.keep
  have hn := IC.toInCall.ns
  have hxL : s.heap.objs.size ≠ x := Nat.ne_of_gt (Heap.lt_size hx)
  have X₁ : K.In h₁ := X.keeps k
  have hx₁ := k _ _ hx
  show wpAny _ _ (execs _ _) _ _ _
  refine wpAny_execs_cons (plainObj_wpAny_Assign_Attribute ?_)
  refine ldX (v := v) hn (hf.bf _ _ _ _ _ _) (ldX (v := .ref x) hn (hf.bs _ _ _ _ _ _) ?_ (hf.ks _ _ _ _) (by decide)) (hf.kf _ _ _ _) hf.dbg
  refine set_plain X₁ (ox := excO C t0) (od := none) ⟨hx₁, rfl, rfl, trivial⟩ T.sa ?_
  refine osa_P X₁ hx₁ hcl rfl rfl T.noN (fun h₃ tk₃ dx k₃ dn dne hx₃ hn₃ => ?_)
  show wpAny _ _ (execs _ _) _ _ _
  have z : s.heap.objs.size < h₁.objs.size := hn.lt
  exact wpAny_execs_nil (hq h₃ tk₃ dx ⟨fun b o hb e => k₃ b o hb (k b o e), hx₃, Nat.le_of_lt (Nat.lt_of_lt_of_le z dn), dne, hn₃⟩)
theorem x_made (T : ExT K mg x0 fl qual C P fI) (hf : FlOk fl) {v : Value} (X : K.In s.heap) (hlim : s.heap.NoLimit) (hroom : A.depth + 1 < recursionLimit)
    (hq : ∀ h' tk e d, XMade s.heap h' e C d fl v → R (.ok (.ret (.ref e))) { s with heap := h', toks := tk }) :
    codeAny (model prog w) A (.call (.ref C) ⟨[v], []⟩) R s := by
  obtain ⟨nm, q, N, bs, sn, sub, ab, col, dd, k0, k1, k2, k3, k5, hC⟩ := T.cls
  obtain ⟨hp, g, dr, tk, os⟩ := s
  have k : ∀ b o, hp.get? b = some o → ((hp.push (kdv_tup [v])).push (excO C hp.objs.size)).get? b = some o := fun b o e => Heap.get?_push_of_some _ (Heap.get?_push_of_some _ e)
  have hget : ((hp.push (kdv_tup [v])).push (excO C hp.objs.size)).get? (hp.objs.size + 1) = some (excO C hp.objs.size) := by heap_get
  refine call_own F.excBase_Exception (fun X => tailP_eq X) (X _ _ hC) (looks_findIn X T.iC) (fun self => bind_fn X self T.tC) (one_size v) ?_
  refine x_init (s := ⟨(hp.push (kdv_tup [v])).push (excO C hp.objs.size), g, dr, tk, os⟩) T hf (X.keeps k) (hlim.keeps k) hget ?_ fun h' tk' dx ⟨k', hx, dn, dne, hns⟩ => ?_
  · show A.depth + 1 < recursionLimit
    exact hroom
  · have old : ∀ b o, hp.get? b = some o → h'.get? b = some o := fun b o e => k' b o (Nat.ne_of_lt (Nat.lt_succ_of_lt (Heap.lt_size e))) (k b o e)
    have z : hp.objs.size + 1 + 1 ≤ dx := by
      first
        | (simpa only [Heap.size_push] using dn)
        | exact dn
        | (have q := dn; rw [Heap.size_push, Heap.size_push] at q; exact q)
    exact ⟨rfl, hq h' tk' (hp.objs.size + 1) dx ⟨old, Nat.le_succ _, ⟨_, hx⟩, Nat.le_trans (Nat.le_trans (Nat.le_succ _) (Nat.le_succ _)) z, dne, hns⟩⟩
end
open PySem.Spec L2
theorem relO_x {fl : Str} {v : V} {v' : Value} (r : RelV v v') (f : Str) : RelO (List.lookup f [(fl, v)]) (if f = fl then some v' else none) := by
  by_cases hw : f = fl
  · subst hw
    rw [if_pos rfl]
    have q : List.lookup f [(f, v)] = some v := by simp [List.lookup]
    rw [q]
    exact r
  · rw [if_neg hw]
    have qw : (f == fl) = false := by simpa using hw
    have q2 : List.lookup f [(fl, v)] = none := by simp [List.lookup, qw]
    rw [q2]
    trivial
section
variable {X : Cx} {C P fI : Addr} {x0 fl qual : Str}
/-- X(e) -/
def tMkX (C : Addr) (fl : Str) (ta : TA) : L2.St → Hp → XK → Prop := fun σ H Q => ta σ H fun vs H1 => ∃ v, vs = [v] ∧ ∀ d, H1 d = none → Q (.ref C) (some d) (L2.upd H1 d (.xd [(fl, v)]))
theorem pmk_x {a : Expr} {ta : TA} {p pos : Pos} {k : Nat} (T : ExT X.K X.mg x0 fl qual C P fI) (hf : FlOk fl) (hr : Room k X.A) (ha : PA X [a] ta) (hg : Gl X x0)
    (he : starEach (a :: []) X.env = (false, eval a X.env) :: starEach [] X.env := by rfl) (hpl : (backTo pos (starEach [] X.env)).any (·.1) = false := by rfl) (hdb : (x0 == ("__debug__" : Str)) = false := by decide) :
    L2N.PMk X (.Call (.Name x0 p) [a] [] pos) (tMkX C fl ta) := by
  intro pins s σ H Q I h
  refine wpAny_Call_Name_kw (ld_glob I hg T.gC ?_ hdb)
  refine callWith_K (h₀ := X.base) I.ok.mod.kin T.kC (thn (ha.run pos pins s σ H _ I h) fun us s1 hh => ?_) he hpl
  obtain ⟨vs, H1, I1, r1, v, ev, q1⟩ := hh
  subst ev
  refine ⟨I1.kIn, ?_⟩
  cases r1 with
  | cons rv rn =>
    rename_i v' us'
    cases rn
    show wpAny _ _ (call (.ref C) [v']) _ _ _
    have hlim := I1.nolimit
    obtain ⟨hp, g, dr, tk, os⟩ := s1
    refine wpAny_call (x_made T hf I1.kIn hlim (by have := hr.dp; omega) fun h' tk' e d M => ?_)
    show L2N.MkP X pins σ Q (.ref e) ⟨h', g, dr, tk', os⟩
    obtain ⟨t1, hoe⟩ := M.obj
    have hns := M.ns
    obtain ⟨G', g1, g2⟩ := restrict h' fun b => decide (b ≠ e)
    have gk : ∀ b, b ≠ e → G'.get? b = h'.get? b := fun b hb => g1 b (decide_eq_true hb)
    have ge : G'.get? e = none := g2 e (by simp)
    have old : ∀ b o, hp.get? b = some o → G'.get? b = some o := fun b o q => (gk b (Nat.ne_of_lt (Nat.lt_of_lt_of_le (Heap.lt_size q) M.new))).trans (M.keep b o q)
    have ob : ObjOk X.prog X.w (L2.upd H1 d (.xd [(fl, v)])) G' d (.xd [(fl, v)]) :=
      ⟨_, hns.at (fun o q => (gk d M.dne).trans q), fun f => relO_x rv f⟩
    have J : L2.Inv X pins σ (L2.upd H1 d (.xd [(fl, v)])) ⟨G', g, dr, tk', os⟩ := I1.laid (t' := tk') old M.dbig ob
    refine ⟨e, _, _, ⟨G', g, dr, tk', os⟩, _, .ref C, some d, rfl, J, fun b o q => ?_, ge, hoe, ⟨rfl, rfl, fun vs e => by cases e; rfl⟩, rfl, rfl, ?_, rfl, I1.bare, raises_own T.xf.exC T.tyC, q1 d (I1.hok.fresh M.dbig)⟩
    · by_cases hb : b = e
      · have q' : G'.get? b = some o := q
        rw [hb, ge] at q'; cases q'
      · exact (gk b hb).symm.trans q
    · rw [upd_ne (Ne.symm M.dne)]
      exact I1.hok.fresh M.new
/-- raise X(e) -/
def tRaiseX (C : Addr) (fl : Str) (W : WX) (ta : TA) : TS := fun _ σ H => tMkX C fl ta σ H fun cls d H' => W cls d σ H'
theorem ps_raiseX {a : Expr} {ta : TA} {W : WX} {p pos pos2 : Pos} {k : Nat} (T : ExT X.K X.mg x0 fl qual C P fI) (hf : FlOk fl) (hr : Room k X.A) (tk : L2N.Takes X W) (ha : PA X [a] ta) (hg : Gl X x0) (hc : X.calm = true := by rfl)
    (he : starEach (a :: []) X.env = (false, eval a X.env) :: starEach [] X.env := by rfl) (hpl : (backTo pos (starEach [] X.env)).any (·.1) = false := by rfl) (hdb : (x0 == ("__debug__" : Str)) = false := by decide) :
    PS X (.Raise (some (.Call (.Name x0 p) [a] [] pos)) none pos2) (tRaiseX C fl W ta)   := L2N.ps_raise hc tk (pmk_x T hf hr ha hg he hpl hdb)
end
end Ps

/-! try with several named clauses; calls whose errors are wished for at the caller's slots. -/
namespace Ps
open PySem PySem.Spec PyProof.Rows L2

/-- a clause: the class, the name's slot, the suite's reading -/
abbrev Cl : Type := Value × Nat × (Addr → Value → Option Addr → TS)
/-- the ends of a suite whose name goes behind it -/
def endsN (D : Ends) (i : Nat) : Ends := { nx := fun σ' H' => D.nx (σ'.set i none) H', rt := D.rt, bk := fun σ' H' => D.bk (σ'.set i none) H', ct := fun σ' H' => D.ct (σ'.set i none) H' }
def wN (K : PySem.W.Frag) (Wout : WX) (D : Ends) : List Cl → WX
  | [] => Wout
  | (c, i, ts) :: r => fun cls d σ H => ∃ b, PySem.W.exmOne K cls c = some b ∧ (b = true → ∀ a, H a = none → ts a cls d (endsN D i) (σ.set i (some (.ref a))) H) ∧ (b = false → wN K Wout D r cls d σ H)
inductive HdsN (X : Cx) : List ExceptHandler → List Cl → Prop
  | nil : HdsN X [] []
  | cons {x n : Str} {c : Value} {i : Nat} {ts : Addr → Value → Option Addr → TS} {b₀ : Stmt} {suite : List Stmt} {np pos' : Pos} {hds : List ExceptHandler} {l : List Cl} (hi : X.N[i]? = some n) (hln : X.env.kindOf n = some .local) (hc : Names X x c)
      (hsu : ∀ (a : Addr) (oe : Obj) (cls : Value) (d : Option Addr) (pn : List (Addr × Obj)), L2N.Zn cls d oe → (∃ vs, oe.data = .fields vs) → PSs (X.suite a ((a, oe) :: pn)) (b₀ :: suite) (ts a cls d)) (r : HdsN X hds l) :
      HdsN X (.ExceptHandler (some (.Name x np)) (some n) (b₀ :: suite) pos' :: hds) ((c, i, ts) :: l)
/-- the error has landed: s is the state, sI the one without it -/
structure Down (X : Cx) (pins : List (Addr × Obj)) (a : Addr) (B : Heap) (cls : Value) (d : Option Addr) (σ : L2.St) (H : Hp) (sI s : Shared) : Prop where
  inv : L2.Inv X pins σ H sI
  nb : ∀ b o, sI.heap.get? b = some o → b ∉ frs X.stack → B.get? b = some o
  up : sI.heap.UpToSlots s.heap
  fl : HandSPX.FlyingZ B (X.env :: X.outer) a (L2N.Zn cls d) s.heap
  na : H a = none
  os : s.os = sI.os
  ag : AllBare s.gens
section
variable {X : Cx} {pins : List (Addr × Obj)} {a : Addr} {B : Heap} {cls : Value} {d : Option Addr} {σ : L2.St} {H : Hp} {sI s : Shared} {Wout : WX} {D : Ends}
theorem Down.here (G : Down X pins a B cls d σ H sI s) : L2.Inv X pins σ H s := G.inv.landed G.nb G.fl.1 G.up G.os G.ag
theorem Down.off (G : Down X pins a B cls d σ H sI s) (hf : X.env.frame = some X.env.locals) : a ≠ X.env.locals ∧ a ∉ X.fs := by
  obtain ⟨oe, vs, he, hz, hd⟩ := G.fl.there
  have nfr : a ∉ frs (X.env :: X.outer) := fun hm => by
    obtain ⟨_, o', e', hnf⟩ := G.fl.2.2.1.mem hm
    rw [he] at e'
    cases e'
    exact hnf _ hd
  refine ⟨fun z => nfr (List.mem_filterMap.mpr ⟨X.env, List.mem_cons_self, by rw [hf, z]⟩), fun hm => ?_⟩
  obtain ⟨e, h1, q⟩ := List.mem_filterMap.mp hm
  exact nfr (List.mem_filterMap.mpr ⟨e, List.mem_cons_of_mem _ h1, q⟩)
/-- no clause is left: it goes on -/
theorem down_nil (G : Down X pins a B cls d σ H sI s) (hs : X.stack = X.env :: X.outer) (hf : X.env.frame = some X.env.locals) (tk : L2N.Takes X Wout) (w : Wout cls d σ H) : wpAny (model X.prog X.w) X.A (handleBy (.ref a) X.env []) (SP X pins D) X.xe s := by
  refine wpAny_handleBy_nil ?_
  obtain ⟨k1, k2, k3, oe, vs, T, oT, ts', he, hz, hd, h1, hr⟩ := id G.fl
  unfold PySem.passOn
  refine wpAny_bind (wpAny_field he hd h1 ?_)
  rw [if_neg (show ¬ ((Value.ref T == Value.none) = true) from by simp)]
  have fin : wpAny (model X.prog X.w) X.A (setFlight (.ref a) X.env.frame) (fun _ s4 => wpAny (model X.prog X.w) X.A (throw (.ref a) : Sem Flow) (SP X pins D) X.xe s4) X.xe s := by
    rw [hf]
    refine HandSPX.setFlight_upZ G.fl fun h4 hh4 up4 => wpAny_throw (tk _ _ ?_)
    exact ⟨a, B, sI, pins, σ, H, cls, d, rfl, G.inv, G.nb, G.up.trans up4, .inr (.inr (by rw [hs]; exact hh4)), G.na, G.os, G.ag, w⟩
  first
    | exact wpAny_bind (wpAny_pure (wpAny_bind fin))
    | exact wpAny_bind fin
/-- the clause's suite runs -/
theorem down_suite {n : Str} {i : Nat} {ts : Addr → Value → Option Addr → TS} {b₀ : Stmt} {suite : List Stmt} {pos' : Pos} {Q : Flow → Shared → Prop} {E1 E2 : Value → Shared → Prop} (G : Down X pins a B cls d σ H sI s) (hf : X.env.frame = some X.env.locals) (hN : X.N.Nodup) (hi : X.N[i]? = some n) (hln : X.env.kindOf n = some .local)
    (hsu : ∀ (a : Addr) (oe : Obj) (cls : Value) (d : Option Addr) (pn : List (Addr × Obj)), L2N.Zn cls d oe → (∃ vs, oe.data = .fields vs) → PSs (X.suite a ((a, oe) :: pn)) (b₀ :: suite) (ts a cls d))
    (w : ts a cls d (endsN D i) (σ.set i (some (.ref a))) H) (hQ : ∀ f s', SP X pins D f s' → Q f s') :
    wpAny (model X.prog X.w) (X.A.mark (some (.ref a))) (storeName X.env n (.ref a)) (fun _ s5 => wpAny (model X.prog X.w) (X.A.mark (some (.ref a))) (execs (b₀ :: suite) X.env)
      (fun f s6 => wpAny (model X.prog X.w) X.A (do bindName X.env n .none; unbindBehindTheSuite X.env n pos') (fun _ s7 => Q f s7) X.xe s6) E2 s5) E1 s := by
  obtain ⟨oe, vs, he, hz, hd⟩ := G.fl.there
  have J := G.here
  obtain ⟨nL, nF⟩ := G.off hf
  have S4 := J.suite he hd G.na nL nF
  refine store_ok (X := X.suite a ((a, oe) :: (X.pn ++ pins))) (v := .ref a) S4 hN hi (.inl hln) rfl (fun s5 S5 => ?_) (.inr hln)
  refine wpAny_mono ((hsu a oe cls d (X.pn ++ pins) hz ⟨_, hd⟩).run [] s5 _ H _ S5 w) (fun f s6 hsp => ?_) (fun _ _ z => False.elim z)
  have away : ∀ {σ6 : L2.St} {H6 : Hp}, L2.Inv (X.suite a ((a, oe) :: (X.pn ++ pins))) [] σ6 H6 s6 → (∀ s7, L2.Inv X pins (σ6.set i none) H6 s7 → SP X pins D f s7) →
      wpAny (model X.prog X.w) X.A (do bindName X.env n .none; unbindBehindTheSuite X.env n pos') (fun _ s7 => Q f s7) X.xe s6 := fun {σ6 H6} S6 hq => gone_ok (S6.unsuite J.ok) hN hi hln fun s7 J7 => hQ _ _ (hq s7 J7)
  cases f with
  | next => obtain ⟨σ6, H6, S6, q6⟩ := hsp; exact away S6 fun s7 J7 => ⟨_, _, J7, q6⟩
  | brk => obtain ⟨σ6, H6, S6, q6⟩ := hsp; exact away S6 fun s7 J7 => ⟨_, _, J7, q6⟩
  | cont => obtain ⟨σ6, H6, S6, q6⟩ := hsp; exact away S6 fun s7 J7 => ⟨_, _, J7, q6⟩
  | ret u => obtain ⟨v6, σ6, H6, S6, r6, q6⟩ := hsp; exact away S6 fun s7 J7 => ⟨_, _, _, J7, r6, q6⟩
theorem down_all (hs : X.stack = X.env :: X.outer) (hf : X.env.frame = some X.env.locals) (hN : X.N.Nodup) (tk : L2N.Takes X Wout) : ∀ {hds : List ExceptHandler} {l : List Cl}, HdsN X hds l → ∀ {s : Shared}, Down X pins a B cls d σ H sI s → wN X.K Wout D l cls d σ H →
    wpAny (model X.prog X.w) X.A (handleBy (.ref a) X.env hds) (SP X pins D) X.xe s
  | _, _, .nil, s, G, w => down_nil G hs hf tk w
  | _, _, @HdsN.cons _ x n c i ts b₀ suite np pos' hds l hi hln hc hsu r, s, G, w => by
    obtain ⟨b, hb1, hyes, hno⟩ := w
    obtain ⟨oe, vs, he, hz, hd⟩ := G.fl.there
    obtain ⟨nL, nF⟩ := G.off hf
    have S3 := G.here.suite he hd G.na nL nF
    refine wpAny_handleBy_cons (codeAny_handlers_test ?_) (by intro q; cases q)
    have LT : PySem.W.Looks (model X.prog X.w) s.heap (typeOf (.ref a)) cls := fun A Q E s k q => wpAny_typeOf_ref (k _ _ he) (by rw [hz.1]; exact q)
    have LM := PySem.W.exm_one (M := model X.prog X.w) G.here.kIn LT hb1
    have look : ∀ {Q : Value → Shared → Prop} {E : Value → Shared → Prop}, Q c s → wpAny (model X.prog X.w) (X.A.mark (some (.ref a))) (eval (.Name x np) X.env) Q E s := fun {Q E} q => by
      obtain ⟨hg, hdbg, hm | ⟨hm, hv, hnn⟩⟩ := hc
      · exact ld_glob (X := X.suite a ((a, oe) :: (X.pn ++ pins))) S3 hg hm q hdbg
      · exact ld_blt (X := X.suite a ((a, oe) :: (X.pn ++ pins))) S3 hg hm hv q hnn hdbg
    refine look (LM.here ?_)
    cases b with
    | false =>
      show wpAny _ X.A (handleBy (.ref a) X.env hds) _ _ _
      exact down_all hs hf hN tk r G (hno rfl)
    | true =>
      refine codeAny_handlers_suite_as ?_
      refine HandSPX.lands_againZ G.fl fun h4 fl4 up4 => ?_
      have G4 : Down X pins a B cls d σ H sI { s with heap := h4 } := ⟨G.inv, G.nb, G.up.trans up4, fl4, G.na, G.os, G.ag⟩
      exact down_suite G4 hf hN hi hln hsu (hyes rfl a G.na) (fun _ _ q => q)
end
section
variable {X : Cx} {body : List Stmt} {h₀ : ExceptHandler} {hds : List ExceptHandler} {l : List Cl} {pos : Pos} {tb : WX → TS} {Wout : WX}
/-- try: body / except A as n: .. / except B as n: .. -/
theorem ps_tryN (hs : X.stack = X.env :: X.outer) (hf : X.env.frame = some X.env.locals) (hN : X.N.Nodup) (tk : L2N.Takes X Wout)
    (hb : ∀ (W : WX) (pn : List (Addr × Obj)) (xe : Value → Shared → Prop), L2N.Takes (X.tr pn xe) W → PassesOwn (model X.prog X.w) X.A X.env xe → PSs (X.tr pn xe) body (tb W))
    (hh : HdsN X (h₀ :: hds) l) : PS X (.Try body (h₀ :: hds) [] [] pos) (fun D σ H => tb (wN X.K Wout D l) D σ H) := by
  refine ⟨fun pins s σ H D I h => ?_⟩
  have ok := I.ok
  have hfr : X.A.frames = some (X.env :: X.outer) := by rw [ok.frames, hs]
  refine wpAny_Try_except ?_
  have run := (hb (wN X.K Wout D l) (X.pn ++ pins) (fun e s₁ => wpAny (model X.prog X.w) X.A (noteFrame e X.env) (fun _ s₂ => wpAny (model X.prog X.w) X.A (setFlight e none) (fun _ s₃ =>
    wpAny (model X.prog X.w) X.A (handleBy e X.env (h₀ :: hds)) (SP X pins D) X.xe s₃) X.xe s₂) X.xe s₁) (fun u s' xx => ?_) PassesOwn.looking).run [] s σ H D (I.toTry _) h
  · refine wpAny_mono run (fun f s1 hsp => ?_) (fun e s1 he => he)
    cases f with
    | next => obtain ⟨σ', H', J', q⟩ := hsp; exact wpAny_execs_nil ⟨σ', H', J'.ofTry ok, q⟩
    | brk => obtain ⟨σ', H', J', q⟩ := hsp; exact ⟨σ', H', J'.ofTry ok, q⟩
    | cont => obtain ⟨σ', H', J', q⟩ := hsp; exact ⟨σ', H', J'.ofTry ok, q⟩
    | ret u => obtain ⟨v, σ', H', J', r, q⟩ := hsp; exact ⟨v, σ', H', J'.ofTry ok, r, q⟩
  · obtain ⟨a, B, sI, pins', σ', H', cls, d, rfl, J', nb, up, sky, na, os, ag, w⟩ := xx
    have sky' : Sky B (X.env :: X.outer) a (L2N.Zn cls d) X.env.locals s'.heap := by rw [← hs]; exact sky
    show wpAny (model X.prog X.w) X.A (noteFrame (.ref a) X.env) _ _ _
    refine L2N.Sky.land L2N.Zn.steady hfr hf sky' fun h3 fl3 up3 => ?_
    exact down_all hs hf hN tk hh (s := { s' with heap := h3 }) ⟨J'.ofTry ok, nb, up.trans up3, fl3, na, os, ag⟩ w
end
end Ps

/-! Defs that raise; their calls inside a try; defs called while an error is handled. -/
namespace Ps
open PySem PySem.Spec PyProof.Rows L2

/-- what leaves a def that raises: errors whose context is None -/
abbrev CXN (Z : Cz) : CXT := L2N.CX Z.P Z.w
section
variable {P : Program} {w : World} {K : PySem.W.Frag} {mg : Str → Option Value} {base : Heap}
theorem Fun.okN {x qual : Str} {st : Stmt} {f : Addr} {fd : FuncData} {N ps : List Str} {k : Nat} {sp : Sp} {CX : CXT} (F : Fun K x qual st f fd) (S : FnScope N ps (defScope st)) (len : ∀ vs H Q E, sp vs H Q E → vs.length = ps.length)
    (hbody : ∀ (cdv : Value) (A : Around) (outer : List Env) (s : Shared) (H : Hp) (vs : List V) (Q : VK) (E : XK), Room k (A.deeper (envOfC qual (defScope st) s.heap.objs.size f cdv)) → sp vs H Q E →
      ∃ t, PSs (cxOf CX P w K mg base N qual (defScope st) f cdv A outer s H E) (defBody st) t ∧ t { nx := fun _ H' => Q .non H', rt := Q } (start N vs) H) : FnOk P w K mg base CX (k + 1) f fd ps sp := by
  obtain ⟨oc, od, kV, doc, pm, an, cdv, ct, osl, rfl, lk, hcd⟩ := F.ex
  exact fn_of lk hcd S len fun A outer s H vs Q E hr hsp => hbody cdv A outer s H vs Q E hr hsp
theorem Fun.okH {x qual : Str} {st : Stmt} {f : Addr} {fd : FuncData} {N ps : List Str} {k : Nat} {sp : Sp} {CX : CXT} (F : Fun K x qual st f fd) (S : FnScope N ps (defScope st)) (len : ∀ vs H Q E, sp vs H Q E → vs.length = ps.length)
    (hbody : ∀ (cdv : Value) (A : Around) (outer : List Env) (s : Shared) (H : Hp) (vs : List V) (Q : VK) (E : XK) (p : Addr × Obj), L2H.Hot1 A p → L2H.RoomH k (A.deeper (envOfC qual (defScope st) s.heap.objs.size f cdv)) → sp vs H Q E →
      ∃ t, PSs (L2H.cxH CX P w K mg base N qual (defScope st) f cdv A outer s H E p) (defBody st) t ∧ t { nx := fun _ H' => Q .non H', rt := Q } (start N vs) H) : L2H.FnH P w K mg base CX (k + 1) f fd ps sp := by
  obtain ⟨oc, od, kV, doc, pm, an, cdv, ct, osl, rfl, lk, hcd⟩ := F.ex
  exact L2H.fn_ofH lk hcd S len fun A outer s H vs Q E p hot hr hsp => hbody cdv A outer s H vs Q E p hot hr hsp
/-- a def that raises, where it raises nothing -/
theorem okCalm {k : Nat} {f : Addr} {fd : FuncData} {ps : List Str} {sp sp' : Sp} (F : FnOk P w K mg base (L2N.CX P w) k f fd ps sp) (h : ∀ vs H Q E, sp' vs H Q E → sp vs H Q E0) : FnOk P w K mg base CX0 k f fd ps sp' := by
  refine ⟨fun vs H Q E hs => F.len vs H Q E0 (h vs H Q E hs), fun A outer s H args us vs Q E hr e0 hb r hs => ?_⟩
  refine codeAny_mono (F.run A outer s H args us vs Q E0 hr e0 hb r (h _ _ _ _ hs)) fun r s' hq => ?_
  cases r with
  | error e =>
    obtain ⟨_, _, _, _, _, _, _, _, _, _, _, _, z⟩ := hq
    exact z.elim
  | ok fl => cases fl <;> exact hq
end
/-- all errors of the def go out as they are -/
theorem passN {X : Cx} {E : XK} (tk : L2N.Takes X (fun cls d _ H => E cls d H)) : Passes (L2N.CX X.prog X.w) X E := L2N.passes_call tk fun _ _ _ _ h => h
section
variable {Z : Cz} {X : Cx} {CX : CXT} {k : Nat} {C : Addr} {ps : List Str} {sp : Sp} {dvs : List V} {E : L2.St → XK} {x m : Str} {p pos apos : Pos} {e o : Expr} {es : List Expr} {ta : TE} {t : TA}
theorem pe_calS (c : Cal Z CX k x ps dvs sp) (hr : Room k X.A) (hg : Gl X x) (hx : ∀ σ, PassesAt CX X σ (E σ)) (ha : PA X (e :: es) t) (z : InZ Z X := by exact ⟨rfl, rfl, rfl, rfl, rfl⟩)
    (hdb : (x == ("__debug__" : Str)) = false := by decide) (he : starEach (e :: es) X.env = (false, eval e X.env) :: starEach es X.env := by rfl) (hpl : (backTo pos (starEach es X.env)).any (·.1) = false := by rfl) :
    PE X (.Call (.Name x p) (e :: es) [] pos) (tCallSD sp dvs E t) := by
  obtain ⟨f, fd, ds, G, h1, h2, h3, h4⟩ := c
  exact pe_callSD (z.ok G) hr hg (by rw [z.mg]; exact h1) (by rw [z.K]; exact h2) (by rw [z.K]; exact h3) h4 hx ha hdb he hpl
def tMakeS (C : Addr) (sp : Sp) (dvs : List V) (E : L2.St → XK) (t : TA) : TE := fun σ H Q => t σ H fun vs H1 => ∀ x dx, H1 x = none → H1 dx = none → dx ≠ x →
  sp (.ref x :: (vs ++ dvs)) (upd (upd H1 dx (.own x)) x (.ins C dx [])) (fun v H2 => v = .non ∧ Q (.ref x) H2) (E σ)
theorem pe_calCS (c : CalC Z CX k C x ps dvs sp) (hr : Room (k + 1) X.A) (hg : Gl X x) (hx : ∀ σ, PassesAt CX X σ (E σ)) (ha : PA X (e :: es) t) (z : InZ Z X := by exact ⟨rfl, rfl, rfl, rfl, rfl⟩)
    (hdb : (x == ("__debug__" : Str)) = false := by decide) (he : starEach (e :: es) X.env = (false, eval e X.env) :: starEach es X.env := by rfl) (hpl : (backTo pos (starEach es X.env)).any (·.1) = false := by rfl) :
    PE X (.Call (.Name x p) (e :: es) [] pos) (tMakeS C sp dvs E t) := by
  obtain ⟨f, fd, ds, G, M, h2, hb, hd⟩ := c
  have F := z.ok G
  rw [← z.K] at M hb
  refine ⟨fun pins s σ H Q I h => ?_⟩
  refine wpAny_Call_Name_kw (ld_glob I hg (by rw [z.mg]; exact h2) ?_ hdb)
  refine PySem.W.callWith_K (h₀ := X.base) I.ok.mod.kin M.kp (thn (ha.run pos pins s σ H _ I h) fun us s1 ⟨vs, H1, I1, r, q⟩ => ⟨I1.kIn, ?_⟩) he hpl
  have q1 := q (s1.heap.objs.size + 1) s1.heap.objs.size (I1.hok.fresh (Nat.le_succ _)) (I1.hok.fresh (Nat.le_refl _)) (Nat.ne_of_lt (Nat.lt_succ_self _))
  have I2 := Inv.made (C := C) I1
  have r2 : Vals (V.ref (s1.heap.objs.size + 1) :: (vs ++ dvs)) (Value.ref (s1.heap.objs.size + 1) :: (us ++ ds)) := .cons rfl (r.append hd)
  have hl : (Value.ref (s1.heap.objs.size + 1) :: us ++ ds).length = ps.length := r2.length.symm.trans (F.len _ _ _ _ q1)
  have run := F.run _ X.stack _ _ ⟨Value.ref (s1.heap.objs.size + 1) :: us, []⟩ (Value.ref (s1.heap.objs.size + 1) :: (us ++ ds)) _ _ (E σ) (hr.make C us []) (I2.env0.make C us []) (hb _ (Value.ref (s1.heap.objs.size + 1) :: us) I2.kIn hl) r2 q1
  refine wpAny_call (make_map (f := f) I1.kIn M.makes M.init (beq_iff_eq.mp M.fn) (codeAny_mono run fun rr s' hq' => ?_))
  cases rr with
  | error e => exact hx σ pins _ _ e s' I2 hq'
  | ok fl =>
    cases fl with
    | ret u =>
      obtain ⟨v, H', I3, rv, ev, q3⟩ := I2.after hq'
      subst ev
      exact ⟨rv, ⟨V.ref (s1.heap.objs.size + 1), H', I3, rfl, q3⟩⟩
    | next => exact False.elim hq'
    | brk => exact False.elim hq'
    | cont => exact False.elim hq'
def tMethS' (C : Addr) (m : Str) (sp : Sp) (dvs : List V) (E : L2.St → XK) (ta : TE) (t : TA) : TE := fun σ H Q => ta σ H fun x H1 => ∃ a dx fs, x = .ref a ∧ H1 a = some (.ins C dx fs) ∧ fs.lookup m = none ∧
  t σ H1 fun vs H2 => sp (x :: (vs ++ dvs)) H2 Q (E σ)
theorem pe_calMS {pl : Sem Bool} (c : CalM Z CX k C m ps dvs sp) (hr : Room k X.A) (hx : ∀ σ, PassesAt CX X σ (E σ)) (he : PE X o ta) (ha : PA X (e :: es) t) (z : InZ Z X := by exact ⟨rfl, rfl, rfl, rfl, rfl⟩)
    (hst : starEach (e :: es) X.env = (false, eval e X.env) :: starEach es X.env := by rfl) (hpl : (backTo pos (starEach es X.env)).any (·.1) = false := by rfl)
    (ht : eval (.Call (.Attribute o m apos) (e :: es) [] pos) X.env = (do
      let ov ← eval o X.env
      standAt apos.atName
      let (f, first) ← holding [ov] (getMethod ov m pl)
      callWith pos f first (backTo pos (starEach (e :: es) X.env)) (backToKw pos (keywordEach [] X.env))) := by rfl) :
    PE X (.Call (.Attribute o m apos) (e :: es) [] pos) (tMethS' C m sp dvs E ta t) := by
  obtain ⟨f, fd, ds, G, hm, cl, hb, hd⟩ := c
  rw [← z.K] at hm cl hb
  refine ⟨fun pins s σ H Q I h => ?_⟩
  refine PySem.W.methodCall_KW (pl := pl) (thn (he.run pins s σ H _ I h) fun u s1 ⟨x, H1, I1, rx, a, dx, fs, ex, ea, l, q⟩ => ?_) ht
  subst ex
  obtain rfl : u = Value.ref a := rx
  refine getmeth_ok I1 ea cl hm l ?_
  refine PySem.W.callWith_K (first := [.ref a]) (h₀ := X.base) I.ok.mod.kin hm.kp (thn (ha.run pos pins s1 σ H1 _ I1 q) fun us s2 ⟨vs, H2, I2, r, q2⟩ => ⟨I2.kIn, ?_⟩) hst hpl
  exact run_fnSD (us := .ref a :: us) (vs := .ref a :: vs) (z.ok G) hr hb hd (hx σ) I2 (.cons rfl r) q2
end
/-! ### while an error is handled -/
/-- a def, called so -/
def CalH (Z : Cz) (k : Nat) (x : Str) (ps : List Str) (sp : Sp) : Prop := ∃ f fd, L2H.FnH Z.P Z.w Z.K Z.mg Z.base CX0 k f fd ps sp ∧ Z.mg x = some (.ref f) ∧ PySem.W.keepIn Z.K (.ref f) = true ∧ Binds Z.K fd ps []
def CalMH (Z : Cz) (k : Nat) (C : Addr) (m : Str) (ps : List Str) (sp : Sp) : Prop := ∃ f fd, L2H.FnH Z.P Z.w Z.K Z.mg Z.base CX0 k f fd ps sp ∧ Meth Z.K C m f ∧ Cls Z.K C ∧ Binds Z.K fd ps []
def CalSH (Z : Cz) (k : Nat) (C : Addr) (m : Str) (ps : List Str) (sp : Sp) : Prop := ∃ f fd, L2H.FnH Z.P Z.w Z.K Z.mg Z.base CX0 k f fd ps sp ∧ OwnOp Z.K C f m ∧ Binds Z.K fd ps []
theorem passAt0 {X : Cx} (σ : L2.St) : PassesAt CX0 X σ E0 := fun _ _ _ _ _ _ h => h.elim
section
variable {Z : Cz} {X : Cx} {k : Nat} {C : Addr} {ps : List Str} {sp : Sp} {x m : Str} {p pos apos : Pos} {e o : Expr} {es : List Expr} {ta : TE} {t : TA}
theorem okHz {f : Addr} {fd : FuncData} (z : InZ Z X) (G : L2H.FnH Z.P Z.w Z.K Z.mg Z.base CX0 k f fd ps sp) : L2H.FnH X.prog X.w X.K X.mg X.base CX0 k f fd ps sp := by
  obtain ⟨h1, h2, h3, h4, h5⟩ := z
  rw [h1, h2, h3, h4, h5]
  exact G
theorem pe_calH (c : CalH Z k x ps sp) (hr : L2H.RoomH k X.A) (hc : L2H.HotC X) (hg : Gl X x) (ha : PA X (e :: es) t) (z : InZ Z X := by exact ⟨rfl, rfl, rfl, rfl, rfl⟩)
    (hdb : (x == ("__debug__" : Str)) = false := by decide) (he : starEach (e :: es) X.env = (false, eval e X.env) :: starEach es X.env := by rfl) (hpl : (backTo pos (starEach es X.env)).any (·.1) = false := by rfl) :
    PE X (.Call (.Name x p) (e :: es) [] pos) (tCallS sp (fun _ => E0) t) := by
  obtain ⟨f, fd, G, h1, h2, h3⟩ := c
  exact L2H.pe_callH (okHz z G) hr hc hg (by rw [z.mg]; exact h1) (by rw [z.K]; exact h2) (by rw [z.K]; exact h3) (fun σ => passAt0 σ) ha hdb he hpl
theorem pe_calMH {pl : Sem Bool} (c : CalMH Z k C m ps sp) (hr : L2H.RoomH k X.A) (hc : L2H.HotC X) (he : PE X o ta) (ha : PA X (e :: es) t) (z : InZ Z X := by exact ⟨rfl, rfl, rfl, rfl, rfl⟩)
    (hst : starEach (e :: es) X.env = (false, eval e X.env) :: starEach es X.env := by rfl) (hpl : (backTo pos (starEach es X.env)).any (·.1) = false := by rfl)
    (ht : eval (.Call (.Attribute o m apos) (e :: es) [] pos) X.env = (do
      let ov ← eval o X.env
      standAt apos.atName
      let (f, first) ← holding [ov] (getMethod ov m pl)
      callWith pos f first (backTo pos (starEach (e :: es) X.env)) (backToKw pos (keywordEach [] X.env))) := by rfl) :
    PE X (.Call (.Attribute o m apos) (e :: es) [] pos) (L2H.tMethH C m sp (fun _ => E0) ta t) := by
  obtain ⟨f, fd, G, h1, h2, h3⟩ := c
  exact L2H.pe_methH (pl := pl) he (by rw [z.K]; exact h2) (by rw [z.K]; exact h1) (okHz z G) hr hc (by rw [z.K]; exact h3) (fun σ => passAt0 σ) ha hst hpl ht
theorem op_cmpH {op : CmpOp} (c : CalSH Z k C (cmpInfo op).2.1 ps sp) (hr : L2H.RoomH k X.A) (hc : L2H.HotC X) (z : InZ Z X := by exact ⟨rfl, rfl, rfl, rfl, rfl⟩) (hop : ∀ a b, compareOp op a b = richCompare op a b := by intro _ _; rfl) : OpR X (compareOp op) (rCmp Z.K C sp E0) := by
  obtain ⟨f, fd, G, h1, h2⟩ := c
  have z' := z
  obtain ⟨e1, e2, e3, e4, e5⟩ := z
  intro pins s σ H x y v u Q I rx ry h
  obtain ⟨⟨a, dx, fs, rfl, ha⟩, ⟨t, ty, ht⟩, h⟩ := h
  cases (show v = Value.ref a from rx)
  rw [← e3] at ty ht h1 h2
  obtain ⟨mA, J0, _⟩ := ins_get I.hok ha
  obtain ⟨od, J, _⟩ := J0.look
  obtain ⟨P, Zk, p, _⟩ := kit_of I ry ty
  obtain ⟨m, hF⟩ := I.fr
  rw [hop]
  refine PySem.W.cmp_K (by have := hr.un; omega) hF I.ok.mod.kin J (Zk.ty (model X.prog X.w) s.heap I.kIn p) ht h1.fn h1.isf ?_
  exact wpAny_mono (L2H.run_fnH (E := fun _ => E0) (us := [.ref a, u]) (vs := [.ref a, y]) (okHz z' G) hr hc h2 (passAt0 σ) I (.cons rfl (.cons ry .nil)) h) (fun _ _ z => cmpBack z) fun _ _ z => z
/-- in a suite -/
theorem hotS {a : Addr} {oe : Obj} {cls : Value} {d : Option Addr} {pn : List (Addr × Obj)} (hz : L2N.Zn cls d oe) (hf : ∃ vs, oe.data = .fields vs) : L2H.HotC (X.suite a ((a, oe) :: pn)) := by
  obtain ⟨vs, hd⟩ := hf
  exact ⟨(a, oe), ⟨rfl, vs, hd, hz.2.2 vs hd⟩, List.mem_cons_self⟩
theorem roomS {a : Addr} {pn : List (Addr × Obj)} (hr : Room k X.A) : L2H.RoomH k (X.suite a pn).A := ⟨hr.dp, hr.un⟩
/-- in a def that was called so -/
theorem hotD {CX : CXT} {P : Program} {w : World} {K : PySem.W.Frag} {mg : Str → Option Value} {base : Heap} {N : List Str} {qual : Str} {scope : Scope} {f : Addr} {cd : Value} {A : Around} {outer : List Env} {s : Shared} {H : Hp} {E : XK} {q : Addr × Obj} (h : L2H.Hot1 A q) :
    L2H.HotC (L2H.cxH CX P w K mg base N qual scope f cd A outer s H E q) := ⟨q, h, List.mem_cons_self⟩
end
end Ps

/-! Defs that are called where no repr is running (Around.guards is the empty list): they may tell the repr of lists, tuples, dicts. -/
namespace Ps
open PySem PySem.Spec PyProof.Rows L2

structure FnG (P : Program) (w : World) (K : PySem.W.Frag) (mg : Str → Option Value) (base : Heap) (CX : CXT) (k : Nat) (f : Addr) (fd : FuncData) (ps : List Str) (sp : Sp) : Prop where
  len : ∀ vs H Q E, sp vs H Q E → vs.length = ps.length
  run : ∀ (A : Around) (outer : List Env) (s : Shared) (H : Hp) (args : Args) (us : List Value) (vs : List V) (Q : VK) (E : XK), Room k A → A.guards = some [] → Env0 P w K mg base A outer s H → BindsTo s fd args (ps.zip us) → Vals vs us → sp vs H Q E →
    codeAny (model P w) A (.call (.ref f) args) (CR CX outer P w H s Q E) s
theorem guards_deeper (A : Around) (env : Env) : (A.deeper env).guards = A.guards := rfl
section
variable {P : Program} {w : World} {K : PySem.W.Frag} {mg : Str → Option Value} {base : Heap}
theorem Fun.okG {x qual : Str} {st : Stmt} {f : Addr} {fd : FuncData} {N ps : List Str} {k : Nat} {sp : Sp} {CX : CXT} (F : Fun K x qual st f fd) (S : FnScope N ps (defScope st)) (len : ∀ vs H Q E, sp vs H Q E → vs.length = ps.length)
    (hbody : ∀ (cdv : Value) (A : Around) (outer : List Env) (s : Shared) (H : Hp) (vs : List V) (Q : VK) (E : XK), Room k (A.deeper (envOfC qual (defScope st) s.heap.objs.size f cdv)) → A.guards = some [] → sp vs H Q E →
      ∃ t, PSs (cxOf CX P w K mg base N qual (defScope st) f cdv A outer s H E) (defBody st) t ∧ t { nx := fun _ H' => Q .non H', rt := Q } (start N vs) H) : FnG P w K mg base CX (k + 1) f fd ps sp := by
  obtain ⟨oc, od, kV, doc, pm, an, cdv, ct, osl, rfl, lk, hcd⟩ := F.ex
  refine ⟨len, fun A outer s H args us vs Q E hr hg e0 hb r hsp => ?_⟩
  have KX : K.In s.heap := e0.mod.kin.keeps fun b o e => (e0.bs b o e).1
  have hkind : ∀ y ∈ ps.zip us, (defScope st).names.lookup y.1 = some .local ∨ ((defScope st).names.lookup y.1 = some .cell ∧ ((cellsFrom (s.heap.objs.size + 1) (defScope st).names []).lookup y.1).isSome = true) := fun y hy =>
    (S.par y.1 (List.of_mem_zip (show (y.1, y.2) ∈ ps.zip us from hy)).1).imp id fun q => ⟨q, PySem.W.cellsFrom_some _ _ _ (.inl q)⟩
  obtain ⟨t, ht, hq⟩ := hbody cdv A outer s H vs Q E (hr.deeper _) hg hsp
  refine codeAny_call_function hr.depth (KX _ _ lk) rfl S.co S.gen rfl (PySem.W.codeRec_of KX hcd) (hb _ _ _ _ (wpAny_newFunctionEnv_cells S.kind hkind fun env he s1 x => ?_))
  subst he
  have lim : s.heap.NoLimit := e0.mod.nolimit.keeps fun b o e => (e0.bs b o e).1
  refine ⟨lim.keeps x.toInCall.keep, codeAny_func ?_⟩
  have I := inv_start (CX := CX) (E := E) S hr.hd e0 (len _ _ _ _ hsp) r x
  refine wpAny_mono (ht.run [] s1 _ H _ I hq) (fun fl s' hs => ?_) fun e s' hs => hs
  cases fl with
  | ret u => obtain ⟨v, σ', H', J, rv, q⟩ := hs; exact ⟨v, H', J.os, J.bare, J.base, J.hok, rv, q⟩
  | next => obtain ⟨σ', H', J, q⟩ := hs; exact ⟨V.non, H', J.os, J.bare, J.base, J.hok, rfl, q⟩
  | brk => obtain ⟨_, _, _, q⟩ := hs; exact False.elim q
  | cont => obtain ⟨_, _, _, q⟩ := hs; exact False.elim q
theorem FnOk.toG {CX : CXT} {k : Nat} {f : Addr} {fd : FuncData} {ps : List Str} {sp : Sp} (F : FnOk P w K mg base CX k f fd ps sp) : FnG P w K mg base CX k f fd ps sp :=
  ⟨F.len, fun A outer s H args us vs Q E hr _ e0 hb r h => F.run A outer s H args us vs Q E hr e0 hb r h⟩
end
/-- such a def -/
def CalG (Z : Cz) (CX : CXT) (k : Nat) (x : Str) (ps : List Str) (sp : Sp) : Prop := ∃ f fd, FnG Z.P Z.w Z.K Z.mg Z.base CX k f fd ps sp ∧ Z.mg x = some (.ref f) ∧ PySem.W.keepIn Z.K (.ref f) = true ∧ Binds Z.K fd ps []
section
variable {Z : Cz} {X : Cx} {CX : CXT} {k : Nat} {ps : List Str} {sp : Sp} {x : Str} {p pos : Pos} {e : Expr} {es : List Expr} {t : TA} {E : XK}
theorem pe_calG (c : CalG Z CX k x ps sp) (hr : Room k X.A) (hgd : X.A.guards = some []) (hg : Gl X x) (hx : Passes CX X E) (ha : PA X (e :: es) t) (z : InZ Z X := by exact ⟨rfl, rfl, rfl, rfl, rfl⟩)
    (hdb : (x == ("__debug__" : Str)) = false := by decide) (he : starEach (e :: es) X.env = (false, eval e X.env) :: starEach es X.env := by rfl) (hpl : (backTo pos (starEach es X.env)).any (·.1) = false := by rfl) :
    PE X (.Call (.Name x p) (e :: es) [] pos) (tCall sp [] E t) := by
  obtain ⟨f, fd, G, h1, h2, h3⟩ := c
  obtain ⟨e1, e2, e3, e4, e5⟩ := z
  rw [← e1, ← e2, ← e3, ← e4, ← e5] at G
  rw [← e4] at h1
  rw [← e3] at h2 h3
  refine ⟨fun pins s σ H Q I h => ?_⟩
  refine wpAny_Call_Name_kw (ld_glob I hg h1 ?_ hdb)
  refine PySem.W.callWith_K (h₀ := X.base) I.ok.mod.kin h2 (thn (ha.run pos pins s σ H _ I h) fun us s1 ⟨vs, H1, I1, r, q⟩ => ⟨I1.kIn, ?_⟩) he hpl
  have q : sp (vs ++ []) H1 Q E := q
  rw [List.append_nil] at q
  have hl : us.length = ps.length := r.length.symm.trans (G.len _ _ _ _ q)
  have b := h3 s1 us I1.kIn (by rw [List.append_nil]; exact hl)
  rw [List.append_nil] at b
  refine wpAny_call (codeAny_mono (G.run X.A X.stack s1 H1 ⟨us, []⟩ us vs Q E hr hgd I1.env0 b r q) fun rr s' hq => ?_)
  cases rr with
  | error e => exact hx pins σ H1 s1 e s' I1 hq
  | ok fl =>
    cases fl with
    | ret u => exact I1.after hq
    | next => exact False.elim hq
    | brk => exact False.elim hq
    | cont => exact False.elim hq
end
/-! ### repr -/
section
variable {X : Cx}
theorem reads_flat {h : Heap} {v : Value} {d : PyData} {as : List Addr} (r : Reads h v d as) : (∃ a, v = .ref a) ∨ ∀ a, v ≠ .ref a := by
  cases v <;> first | exact .inl ⟨_, rfl⟩ | exact .inr fun a z => nomatch z
def rRepr (K : PySem.W.Frag) : List V → Hp → VK → Prop := fun xs H Q => ∃ (v : V) (d : PyData), xs = [v] ∧ Dp K H v d ∧ d.showable = true ∧ d.hasDict = false ∧ d.depth ≤ 60 ∧ d.shown.length ≤ sizeLine ∧ Q (.str d.shown) H
theorem call_repr (hg : X.A.guards = some []) (hu : X.A.units + 64 < cLine) : CallR X (.builtin "repr") (rRepr X.K) := by
  intro pins s σ H xs us Q I r h
  obtain ⟨v, d, rfl, hd, hs, hn, hdp, hz, q⟩ := h
  obtain ⟨u, rfl, r1⟩ := vals1 r
  obtain ⟨as, rd⟩ := Dp.reads I d v u hd r1
  rcases reads_flat rd with ⟨a, rfl⟩ | hf
  · exact repr_of_reads' rd hs (PyData.noDict_hsm hn) hg (by omega) (fun _ _ e => e) (fun h' tu tk k => ⟨.str d.shown, H, I.kept (t' := tk) k, ⟨_, rfl⟩, q⟩) hz
  · cases hd with
    | non => cases r1; exact PySem.P.repr_of_none ⟨.str _, H, I.tok _, ⟨_, rfl⟩, q⟩
    | bl b => cases r1; exact PySem.P.repr_of_bool ⟨.str _, H, I.tok _, ⟨_, rfl⟩, q⟩
    | int i => obtain ⟨t, rfl⟩ := r1; exact PySem.P.repr_of_int (of_decide_eq_true hs) ⟨.str _, H, I.tok _, ⟨_, rfl⟩, q⟩
    | str x => obtain ⟨t, rfl⟩ := r1; exact PySem.P.repr_of_str ⟨.str _, H, I.tok _, ⟨_, rfl⟩, q⟩ hz
    | lst _ _ => cases r1; exact absurd rfl (hf _)
    | tup _ _ => cases r1; exact absurd rfl (hf _)
end
/-! ### the end of a law that is called so -/
section
variable {P : Program} {w : World} {K : PySem.W.Frag} {mg mb : Str → Option Value} {CX : CXT} {k : Nat} {fa a : Addr} {fd : FuncData} {x : Str} {sp : Sp} {s : Shared}
/-- the call over an abstract heap that tracks at most the script -/
theorem call_from {H : Hp} (KX : K.In s.heap) (hns : s.heap.Ns mainGlobals mg) (hb : s.heap.Ns builtinsNs mb) (hbb : ∀ x : Str, x ≠ "__name__" → mb x = bootBuiltins x) (hlim : s.heap.NoLimit) (hg : s.gens = #[])
    (hr : Room k callerA) (F : ∀ base : Heap, K.In base → base.Ns mainGlobals mg → FnG P w K mg base CX k fa fd [x] sp) (hbind : ∀ (s : Shared) (u : Value), BindsTo s fd ⟨[u], []⟩ [(x, u)])
    (hsp : sp [.ref a] H (fun v _ => v = .bl true) fun _ _ _ => False) (hCX : ∀ H e s', CX [] H s (fun _ _ _ => False) e s' → False)
    (hO : Only H) (hok : HOk P w H s.heap) (hK : ∀ b o, K.lookup b = some o → H b = none) (hD : ∀ b o es ep, s.heap.get? b = some o → o.data = .dict es ep → H b = none) :
    codeAny (model P w) callerA (.call (.ref fa) ⟨[.ref a], []⟩) (fun r s' => r = .ok (.ret (.bool true)) ∧ OldK s.heap s'.heap ∧ s'.os = s.os ∧ AllBare s'.gens) s := by
  have nsK : ∀ {b : Addr} {m : Str → Option Value}, s.heap.Ns b m → (hidT s.heap H).Ns b m := fun {b m} ⟨o, es, ep, e, d, r⟩ => ⟨o, es, ep, hidT_get e (hD b o es ep e d), d, r⟩
  have hKb : K.In (hidT s.heap H) := fun b o e => hidT_get (KX b o e) (hK b o e)
  obtain ⟨mc, l1, l2⟩ := hlim
  have e0 : Env0 P w K mg (hidT s.heap H) callerA [] s H :=
    ⟨rfl, ⟨hKb, nsK hns, ⟨mb, nsK hb, hbb⟩, ⟨mc, nsK l1, l2⟩⟩, fun b o e => of_hidT e, Nat.le_of_eq (hidT_size _ _), trivial, fun b hb => absurd (show b ∈ ([] : List Addr) from hb) (by simp), hok, .of_eq hg⟩
  refine codeAny_mono ((F _ hKb (nsK hns)).run callerA [] s H ⟨[.ref a], []⟩ [.ref a] [.ref a] _ _ hr rfl e0 (hbind s (.ref a)) (.cons rfl .nil) hsp) fun r s' h => ?_
  cases r with
  | error e => exact (hCX H e s' h).elim
  | ok fl =>
    cases fl with
    | next => exact False.elim h
    | brk => exact False.elim h
    | cont => exact False.elim h
    | ret u =>
      obtain ⟨v, H', os, bare, un, hok', r', q⟩ := h
      obtain rfl : v = .bl true := q
      obtain rfl : u = Value.bool true := r'
      refine ⟨rfl, OldK.of_keep fun b o e => ?_, os, bare⟩
      rcases hO b with z | ⟨ob, xs, z⟩
      · exact un.keep b o e z (fun y => absurd (show b ∈ ([] : List Addr) from y) (by simp)) (by simp)
      · obtain ⟨e1, _⟩ := hok b _ z
        obtain ⟨e2, _⟩ := hok' b _ (un.frzs b ob _ z)
        exact (Option.some.inj (e1.symm.trans e)) ▸ e2
end
theorem walk_G {l : PySem.W.OpenLaw} {n k : Nat} {q : Program} {loose : List Str} {XP : (Str → Option Value) → Heap → Prop} {YP : World → Heap → Prop} {d : DefRec} {CX : CXT} {x : Str}
    (hn : l.most = some n) (hn2 : n ≤ sizeLine) (hdf : d.params.defaults = []) (hr : Room k callerA)
    (F : ∀ (w : World) (mg : Str → Option Value) (fa : Addr) (h : Heap), YP w h → h.Ns mainGlobals mg → mg d.name = some (.ref fa) →
      ∃ (K : PySem.W.Frag) (fd : FuncData) (sp : Sp), K.In h ∧ (∀ (s : Shared) (u : Value), BindsTo s fd ⟨[u], []⟩ [(x, u)]) ∧
        (∀ (H : Hp) (a : Addr) (ns : List Int), ns.length ≤ n → Only H → SqL K H a (ns.map V.int) → sp [.ref a] H (fun v _ => v = .bl true) fun _ _ _ => False) ∧
        ∀ base : Heap, K.In base → base.Ns mainGlobals mg → FnG l.prog w K mg base CX k fa fd [x] sp)
    (hCX : ∀ (H : Hp) (s : Shared) (e : Value) (s' : Shared), CX [] H s (fun _ _ _ => False) e s' → False) :
    PySem.W.WalkO q loose XP YP l.row.toRowW d [] (fun f vs => PySem.call f vs) := by
  refine Att.attach_call hn hdf fun w s₀ s₁ mg mb fa o pm cd doc a vs ns G Y ho hd hcd hmg hobj hints hlen hg => ?_
  obtain ⟨K, fd, sp, KX, hb, hsp, hF⟩ := F w mg fa _ Y G.T.g hmg
  have rv := vals_ints hints
  have hsz : ns.length ≤ sizeLine := Nat.le_trans hlen hn2
  have noD : ∀ b o es ep, s₁.heap.get? b = some o → o.data = .dict es ep → b ≠ a := fun b o es ep e d z => by
    subst z
    rw [hobj] at e
    cases e
    exact nomatch (show Data.seq vs.toArray _ = Data.dict es ep from d)
  cases hk : K.lookup a with
  | some ob =>
    have e := KX a ob hk
    rw [hobj] at e
    cases e
    have hS : SqL K (fun _ => none) a (ns.map V.int) := .inr ⟨_, vs.toArray, _, hk, rfl, rfl, rfl, by rw [List.size_toArray, hints.length]; exact hsz, by simpa using rv⟩
    exact call_from KX G.T.g G.T.b G.T.builtins G.T.nolimit hg hr hF hb (hsp _ a ns hlen (fun _ => .inl rfl) hS) (fun H e s' => hCX H s₁ e s') (fun _ => .inl rfl) (fun b u z => by have z' : (none : Option HO) = some u := z; cases z') (fun _ _ _ => rfl) (fun _ _ _ _ _ _ => rfl)
  | none =>
    have at_ : ∀ b, (if b = a then some (HO.frz { cls := .type "list", data := .seq vs.toArray } (.lst (ns.map V.int))) else none) = none ∨ b = a := fun b => by
      by_cases h : b = a
      · exact .inr h
      · exact .inl (if_neg h)
    have hO : Only (fun b => if b = a then some (HO.frz { cls := .type "list", data := .seq vs.toArray } (.lst (ns.map V.int))) else none) := fun b => by
      by_cases h : b = a
      · exact .inr ⟨_, _, if_pos h⟩
      · exact .inl (if_neg h)
    refine call_from KX G.T.g G.T.b G.T.builtins G.T.nolimit hg hr hF hb (hsp _ a ns hlen hO (.inl (.inr ⟨{ cls := .type "list", data := .seq vs.toArray }, if_pos rfl⟩))) (fun H e s' => hCX H s₁ e s') hO (fun b u z => ?_) (fun b o e => ?_) (fun b o es ep e d => if_neg (noD b o es ep e d))
    · by_cases h : b = a
      · subst h
        cases (if_pos rfl).symm.trans z
        exact ⟨hobj, by rw [List.length_map]; exact hsz, vs, _, rv, hobj⟩
      · cases (if_neg h).symm.trans z
    · refine if_neg fun z => ?_
      subst z
      rw [hk] at e
      cases e
end Ps

/-! Words of laws that raise and tell. -/
namespace Ps
open PySem PySem.Spec PyProof.Rows PySem.W L2

theorem Same.tup {K : Frag} {H H' : Hp} {a : Addr} {xs : List V} (e : Same H H') (h : SqT K H a xs) : SqT K H' a xs := h.ext (by exact e)
theorem cxUpN {P : Program} {w : World} : StX.CXUp (L2N.CX P w) := by
  rintro outer s H s2 H2 E e s' un kp ho ⟨a, B, H', cls, d, ea, fl, hok, ub, na, os, ag, he⟩
  have fr : ∀ b o, s.heap.get? b = some o → H b = none → H2 b = none := fun b o q n => un.free b o q n (by simp)
  have ub' : UB (frs outer) H H' s.heap B s'.heap :=
    { keep := fun b o q n hb => ub.keep b o (kp b o q) (fr b o q n) hb, slot := fun b o q hb => ub.slot b o (kp b o q) hb, free := fun b o q n => ub.free b o (kp b o q) (fr b o q n), there := fun b o q hb => ub.there b o (kp b o q) hb,
      tups := fun b xs q => ub.tups b xs (un.tups b xs q), frzs := fun b o xs q => ub.frzs b o xs (un.frzs b o xs q),
      tbls := fun b ps q => by
        obtain ⟨m1, e1⟩ := un.tbls b ps q
        obtain ⟨m2, e2⟩ := ub.tbls b _ e1
        exact ⟨m1 ++ m2, by rw [e2, Array.append_assoc]⟩ }
  exact ⟨a, B, H', cls, d, ea, fl, hok, ub', na, os.trans ho, ag, he⟩
theorem pe_never {X : Cx} {e : Expr} : PE X e (fun _ _ _ => False) := ⟨fun _ _ _ _ _ _ h => h.elim⟩
mutual
theorem Dp.mono {K : Frag} {H H' : Hp} (e : Same H H') : ∀ {v : V} {d : PyData}, Dp K H v d → Dp K H' v d
  | _, _, .non => .non
  | _, _, .bl b => .bl b
  | _, _, .int i => .int i
  | _, _, .str x => .str x
  | _, _, .lst h a => .lst (e.seq h) (DpAll.mono e a)
  | _, _, .tup h a => .tup (Same.tup e h) (DpAll.mono e a)
theorem DpAll.mono {K : Frag} {H H' : Hp} (e : Same H H') : ∀ {vs : List V} {ds : List PyData}, DpAll K H vs ds → DpAll K H' vs ds
  | _, _, .nil => .nil
  | _, _, .cons h a => .cons (Dp.mono e h) (DpAll.mono e a)
end
/-- data whose repr is told -/
structure Rp (d : PyData) : Prop where
  show_ : d.showable = true
  nod : d.hasDict = false
  dep : d.depth ≤ 50
  len : d.shown.length ≤ 2000
theorem Rp.d60 {d : PyData} (h : Rp d) : d.depth ≤ 60 := Nat.le_trans h.dep (by decide)
theorem Rp.sz {d : PyData} (h : Rp d) : d.shown.length ≤ sizeLine := Nat.le_trans h.len (Nat.le_of_lt (small1000' (by decide)))
theorem takesN0 {X : Cx} : L2N.Takes X (fun _ _ _ _ => False) := fun _ _ x => by
  obtain ⟨_, _, _, _, _, _, _, _, _, _, _, _, _, _, _, _, z⟩ := x
  exact z.elim
theorem lookup_one {fl : Str} {v : V} : List.lookup fl [(fl, v)] = some v := by simp [List.lookup]
def rpB (d : PyData) : Bool := d.showable && (!d.hasDict && (decide (d.depth ≤ 50) && decide (d.shown.length ≤ 2000)))
theorem rpB_ok {d : PyData} (h : rpB d = true) : Rp d := by
  unfold rpB at h
  simp only [Bool.and_eq_true, Bool.not_eq_true', decide_eq_true_eq] at h
  exact ⟨h.1, h.2.1, h.2.2.1, h.2.2.2⟩
/-- an error of the class at C with the field fl is raised -/
def Rz (C : Addr) (fl : Str) (v : V) (H : Hp) (E : XK) : Prop := ∀ d H', Same H H' → H d = none → H' d = some (.xd [(fl, v)]) → E (.ref C) (some d) H'
theorem Rz.later {C : Addr} {fl : Str} {v : V} {H H1 : Hp} {E : XK} (h : Rz C fl v H E) (e : Same H H1) : Rz C fl v H1 E := fun d H' e' hd hx => h d H' (e.trans e') (e.free hd) hx
theorem Rz.now {C : Addr} {fl : Str} {v : V} {H : Hp} {E : XK} (h : Rz C fl v H E) : ∀ d, H d = none → E (.ref C) (some d) (L2.upd H d (.xd [(fl, v)])) := fun d hd => h d _ (Same.upd hd) hd upd_same
/-- a def called by its address -/
theorem FnOk.toR {P : Program} {w : World} {K : Frag} {mg : Str → Option Value} {base : Heap} {CX : CXT} {k : Nat} {f : Addr} {fd : FuncData} {ps : List Str} {sp : Sp} (F : FnOk P w K mg base CX k f fd ps sp) (hb : Binds K fd ps []) : FnR P w K mg base CX k f sp := by
  intro A outer s H us vs Q E hr e0 r h
  have hl : (us ++ []).length = ps.length := by rw [List.append_nil, ← r.length]; exact F.len _ _ _ _ h
  have hb' := hb s us (fun b o e => (e0.bs b o (e0.mod.kin b o e)).1) hl
  rw [List.append_nil] at hb'
  exact F.run A outer s H ⟨us, []⟩ us vs Q E hr e0 hb' r h
end Ps

/-! == of tuples and dicts whose items may be own instances: both answers. -/
namespace Ps
open PySem PySem.Spec PyProof.Rows PySem.SeqAt
open AutoSeq1 (wpAny_loadPart')
open MeetsSeq MeetsSeq2 MeetsSeq3 SeqRoads2
section
variable {prog : Program} {w : World} {A : Around} {R : Result → Shared → Prop}
theorem tuple_eqB (l b : Addr) (items items2 : Array Value) (n n2 : Nat) (dd dd2 : Option Addr) (sl sl2 : Array (Option Value)) (J : Nat → Shared → Prop)
    (turn : ∀ i (h1 : i < items.size) (h2 : i < items2.size) s, J i s → wpAny (model prog w) A.in1 (eqBool items[i] items2[i]) (fun r s' => (r = true ∧ J (i + 1) s') ∨ (r = false ∧ R (.ok (.ret (.bool false))) s')) (fun e s' => R (.error e) s') s)
    (fin : ∀ s, J (min items.size items2.size) s → R (.ok (.ret (.bool (items.size == items2.size)))) s) {s : Shared} (hl1 : s.heap.get? l = some { cls := .type "tuple", dict := dd, data := .seq items n, slots := sl }) (hb1 : s.heap.get? b = some { cls := .type "tuple", dict := dd2, data := .seq items2 n2, slots := sl2 }) (h : J 0 s) :
    wpAny (model prog w) A.in1 (Builtin.«tuple.__eq__» ⟨[.ref l, .ref b], []⟩) (GQ.FinOf prog w A R) (fun e s' => R (.error e) s') s := by
  have f2 := AutoSeq1.sub_tuple_tuple
  have hZ : (items.toList.zip items2.toList).length = min items.size items2.size := by simp
  have h0 := h
  obtain ⟨hp, g, d, tk, os⟩ := s
  wp_walk using wpAny_loadPart' hl1, wpAny_loadPart' hb1, wpAny_forIn_list _ (fun rest b s' => b.1 = none ∧ ∃ i, rest = (items.toList.zip items2.toList).drop i ∧ i ≤ min items.size items2.size ∧ J i s') _
  case turn =>
    rintro ⟨y, x⟩ rest b s' ⟨hb', i, hz, hi, hI⟩
    have hlt : i < (items.toList.zip items2.toList).length := by
      rcases Nat.lt_or_ge i (items.toList.zip items2.toList).length with h' | h'
      · exact h'
      · rw [List.drop_of_length_le h'] at hz; cases hz
    have hm : i < min items.size items2.size := hZ ▸ hlt
    have h1 : i < items.size := Nat.lt_of_lt_of_le hm (Nat.min_le_left _ _)
    have h2 : i < items2.size := Nat.lt_of_lt_of_le hm (Nat.min_le_right _ _)
    rw [List.drop_eq_getElem_cons hlt] at hz
    injection hz with hyx hrest
    have hy : y = items[i] := by have := congrArg Prod.fst hyx; simpa using this
    have hx : x = items2[i] := by have := congrArg Prod.snd hyx; simpa using this
    subst hy hx
    refine wpAny_bind (wpAny_mono (turn i h1 h2 s' hI) (fun r s2 q2 => ?_) fun _ _ x => x)
    rcases q2 with ⟨hr, q2⟩ | ⟨hr, q2⟩
    · subst hr
      wp_walk
      exact ⟨rfl, i + 1, hrest, hm, q2⟩
    · subst hr
      wp_walk
      exact q2
  case fin =>
    rintro ⟨b1, b2⟩ s' ⟨hb', i, hz, hi, hI⟩
    simp only at hb'
    subst hb'
    have hge : min items.size items2.size ≤ i := by
      rcases Nat.lt_or_ge i (items.toList.zip items2.toList).length with h' | h'
      · rw [List.drop_eq_getElem_cons h'] at hz; cases hz
      · exact hZ ▸ h'
    have hi' : i = min items.size items2.size := by omega
    have hR := fin s' (hi' ▸ hI)
    wp_walk
    exact hR
  case h =>
    exact ⟨rfl, 0, rfl, Nat.zero_le _, h0⟩
theorem tuple_neB (l b : Addr) (items items2 : Array Value) (n n2 : Nat) (dd dd2 : Option Addr) (sl sl2 : Array (Option Value)) (J : Nat → Shared → Prop)
    (turn : ∀ i (h1 : i < items.size) (h2 : i < items2.size) s, J i s → wpAny (model prog w) A.in1 (eqBool items[i] items2[i]) (fun r s' => (r = true ∧ J (i + 1) s') ∨ (r = false ∧ R (.ok (.ret (.bool true))) s')) (fun e s' => R (.error e) s') s)
    (fin : ∀ s, J (min items.size items2.size) s → R (.ok (.ret (.bool (items.size != items2.size)))) s) {s : Shared} (hl1 : s.heap.get? l = some { cls := .type "tuple", dict := dd, data := .seq items n, slots := sl }) (hb1 : s.heap.get? b = some { cls := .type "tuple", dict := dd2, data := .seq items2 n2, slots := sl2 }) (h : J 0 s) :
    wpAny (model prog w) A.in1 (Builtin.«tuple.__ne__» ⟨[.ref l, .ref b], []⟩) (GQ.FinOf prog w A R) (fun e s' => R (.error e) s') s := by
  have f2 := AutoSeq1.sub_tuple_tuple
  have hZ : (items.toList.zip items2.toList).length = min items.size items2.size := by simp
  have h0 := h
  obtain ⟨hp, g, d, tk, os⟩ := s
  wp_walk using wpAny_loadPart' hl1, wpAny_loadPart' hb1, wpAny_forIn_list _ (fun rest b s' => b.1 = none ∧ ∃ i, rest = (items.toList.zip items2.toList).drop i ∧ i ≤ min items.size items2.size ∧ J i s') _
  case turn =>
    rintro ⟨y, x⟩ rest b s' ⟨hb', i, hz, hi, hI⟩
    have hlt : i < (items.toList.zip items2.toList).length := by
      rcases Nat.lt_or_ge i (items.toList.zip items2.toList).length with h' | h'
      · exact h'
      · rw [List.drop_of_length_le h'] at hz; cases hz
    have hm : i < min items.size items2.size := hZ ▸ hlt
    have h1 : i < items.size := Nat.lt_of_lt_of_le hm (Nat.min_le_left _ _)
    have h2 : i < items2.size := Nat.lt_of_lt_of_le hm (Nat.min_le_right _ _)
    rw [List.drop_eq_getElem_cons hlt] at hz
    injection hz with hyx hrest
    have hy : y = items[i] := by have := congrArg Prod.fst hyx; simpa using this
    have hx : x = items2[i] := by have := congrArg Prod.snd hyx; simpa using this
    subst hy hx
    refine wpAny_bind (wpAny_mono (turn i h1 h2 s' hI) (fun r s2 q2 => ?_) fun _ _ x => x)
    rcases q2 with ⟨hr, q2⟩ | ⟨hr, q2⟩
    · subst hr
      wp_walk
      exact ⟨rfl, i + 1, hrest, hm, q2⟩
    · subst hr
      wp_walk
      exact q2
  case fin =>
    rintro ⟨b1, b2⟩ s' ⟨hb', i, hz, hi, hI⟩
    simp only at hb'
    subst hb'
    have hge : min items.size items2.size ≤ i := by
      rcases Nat.lt_or_ge i (items.toList.zip items2.toList).length with h' | h'
      · rw [List.drop_eq_getElem_cons h'] at hz; cases hz
      · exact hZ ▸ h'
    have hi' : i = min items.size items2.size := by omega
    have hR := fin s' (hi' ▸ hI)
    wp_walk
    exact hR
  case h =>
    exact ⟨rfl, 0, rfl, Nat.zero_le _, h0⟩
end
section
variable {prog : Program} {w : World} {A : Around} {E : Value → Shared → Prop} {s : Shared}
theorem rc_tupB {l b : Addr} {items items2 : Array Value} {Q : Value → Shared → Prop} (hu : A.units < cLine) (J : Nat → Shared → Prop) (hl : s.heap.IsTuple l items) (hb : s.heap.IsTuple b items2)
    (turn : ∀ i (h1 : i < items.size) (h2 : i < items2.size) s, J i s → wpAny (model prog w) A.in1 (eqBool items[i] items2[i]) (fun r s' => (r = true ∧ J (i + 1) s') ∨ (r = false ∧ Q (.bool false) s')) E s)
    (fin : ∀ s, J (min items.size items2.size) s → Q (.bool (items.size == items2.size)) s) (h : J 0 s) : wpAny (model prog w) A (richCompare .Eq (.ref l) (.ref b)) Q E s := by
  obtain ⟨⟨cls, dd, data, sl⟩, ho, hc, n, hd⟩ := id hl
  obtain ⟨⟨cls2, dd2, data2, sl2⟩, ho2, hc2, n2, hd2⟩ := id hb
  simp only at hc hd hc2 hd2
  subst hc hd hc2 hd2
  refine wpAny_richCompare_same_room (op := .Eq) ⟨_, ho, rfl⟩ ⟨_, ho2, rfl⟩ F.slot_tuple_eq (GQ.call_here F.slot_tuple_eq ⟨_, ho, rfl⟩ F.entry_tuple_eq (F.args_tuple_eq_2 _ _) ?_) hu
  exact tuple_eqB (R := wants (fun v s' => v ≠ .notImplemented ∧ Q v s') E) l b items items2 n n2 dd dd2 sl sl2 J (fun i h1 h2 s q => wpAny_mono (turn i h1 h2 s q) (fun r s' z => z.elim .inl fun z => .inr ⟨z.1, (fun x => nomatch x), z.2⟩) fun _ _ x => x) (fun s' q => ⟨(fun x => nomatch x), fin s' q⟩) ho ho2 h
theorem rc_tupN {l b : Addr} {items items2 : Array Value} {Q : Value → Shared → Prop} (hu : A.units < cLine) (J : Nat → Shared → Prop) (hl : s.heap.IsTuple l items) (hb : s.heap.IsTuple b items2)
    (turn : ∀ i (h1 : i < items.size) (h2 : i < items2.size) s, J i s → wpAny (model prog w) A.in1 (eqBool items[i] items2[i]) (fun r s' => (r = true ∧ J (i + 1) s') ∨ (r = false ∧ Q (.bool true) s')) E s)
    (fin : ∀ s, J (min items.size items2.size) s → Q (.bool (items.size != items2.size)) s) (h : J 0 s) : wpAny (model prog w) A (richCompare .NotEq (.ref l) (.ref b)) Q E s := by
  obtain ⟨⟨cls, dd, data, sl⟩, ho, hc, n, hd⟩ := id hl
  obtain ⟨⟨cls2, dd2, data2, sl2⟩, ho2, hc2, n2, hd2⟩ := id hb
  simp only at hc hd hc2 hd2
  subst hc hd hc2 hd2
  refine wpAny_richCompare_same_room (op := .NotEq) ⟨_, ho, rfl⟩ ⟨_, ho2, rfl⟩ F.slot_tuple_ne (GQ.call_here F.slot_tuple_ne ⟨_, ho, rfl⟩ F.entry_tuple_ne (F.args_tuple_ne_2 _ _) ?_) hu
  exact tuple_neB (R := wants (fun v s' => v ≠ .notImplemented ∧ Q v s') E) l b items items2 n n2 dd dd2 sl sl2 J (fun i h1 h2 s q => wpAny_mono (turn i h1 h2 s q) (fun r s' z => z.elim .inl fun z => .inr ⟨z.1, (fun x => nomatch x), z.2⟩) fun _ _ x => x) (fun s' q => ⟨(fun x => nomatch x), fin s' q⟩) ho ho2 h
end
end Ps

/-! == of dicts whose values may be own instances: both answers, at the model's level. -/
namespace Ps
open PySem PySem.Spec PySem.W PySem.Calls PyProof.Rows PyProof.V
section
variable {prog : Program} {w : World} {κ : Type} [DecidableEq κ] {knd : KeyKind prog w κ} {A : Around} {E : Value → Shared → Prop} {s : Shared}
theorem samePairsB {nm : String} {a b : Addr} {oa ob : Obj} {ka kb : List (κ × Value)} {Q : Bool → Shared → Prop} (ha : (a == sysModules) = false) (hb : (b == sysModules) = false)
    (da : s.heap.DictOf knd a ka) (db : s.heap.DictOf knd b kb) (hoa0 : s.heap.get? a = some oa) (hob0 : s.heap.get? b = some ob) (J : Nat → Shared → Prop) (hJ : ∀ i s', J i s' → s'.heap.get? a = some oa ∧ s'.heap.get? b = some ob)
    (turn : ∀ (i : Nat) (k : κ) (v : Value) (s' : Shared), ka[i]? = some (k, v) → J i s' → (valueAt kb k = none → Q false s') ∧ ∀ y, valueAt kb k = some y → wpAny (model prog w) A (eqBool v y) (fun r s2 => (r = true ∧ J (i + 1) s2) ∨ (r = false ∧ Q false s2)) E s')
    (fin : ∀ s', J ka.length s' → Q true s') (h0 : ka.length = kb.length → J 0 s) (hne : ka.length ≠ kb.length → Q false s) :
    wpAny (model prog w) A (Builtin.Dict.samePairs nm a b) Q E s := by
  obtain ⟨oa', es, ep, hoa, _, hda, hka, hpa, _⟩ := da
  obtain ⟨ob', es', ep', hob, _, hdb, hkb, hpb, _⟩ := db
  cases hoa.symm.trans hoa0
  cases hob.symm.trans hob0
  have hla : ka.length = es.size := by rw [← hpa.length]; exact Array.length_toList
  have hlb : kb.length = es'.size := by rw [← hpb.length]; exact Array.length_toList
  have hfind : ∀ k, findBy knd.is es' k = valueAt kb k := fun k => by
    rw [← hpb.find k]
    clear hlb hpb hkb hdb hob hob0 hJ
    obtain ⟨l⟩ := es'
    simp [findBy]
  unfold Builtin.Dict.samePairs Builtin.Dict.showsAll
  rw [if_neg (show ¬ (a == sysModules) = true by rw [ha]; exact Bool.false_ne_true), if_neg (show ¬ (b == sysModules) = true by rw [hb]; exact Bool.false_ne_true)]
  refine wpAny_bind (wpAny_pure (wpAny_bind (wpAny_pure ?_)))
  refine wpAny_bind (wpAny_dictEntries hoa hda ?_)
  dsimp only
  refine wpAny_bind (wpAny_dictEntries hob hdb ?_)
  by_cases hsz : es.size = es'.size
  case neg =>
    rw [if_pos (by simpa using hsz)]
    exact wpAny_bind (wpAny_rule (wpAny_pure (hne (by rw [hla, hlb]; exact hsz))))
  case pos =>
    rw [if_neg (by rw [hsz]; simp)]
    refine wpAny_bind (wpAny_dictEpoch hoa hda ?_)
    refine wpAny_bind ?_
    rw [Std.Legacy.Range.forIn_eq_forIn_range']
    simp only [Std.Legacy.Range.size, Nat.sub_zero, Nat.add_sub_cancel, Nat.div_one]
    refine wpAny_forIn_list _
      (fun rest q s' => q = (none, ()) ∧ ∃ i, rest = List.range' i (es.size - i) ∧ i ≤ es.size ∧ J i s')
      _ ?_ ?_ _ _ ⟨rfl, 0, by simp, Nat.zero_le _, h0 (by rw [hla, hlb]; exact hsz)⟩
    · rintro x rest q s' ⟨rfl, i, hr, hi, hpre⟩
      obtain ⟨hoa', hob'⟩ := hJ i s' hpre
      have hlt : i < es.size := by
        rcases Nat.lt_or_ge i es.size with h | h
        · exact h
        · rw [Nat.sub_eq_zero_of_le h] at hr; simp at hr
      obtain ⟨rfl, hrest⟩ : x = i ∧ rest = List.range' (i + 1) (es.size - (i + 1)) := by
        have e : es.size - i = (es.size - (i + 1)) + 1 := by omega
        rw [e, List.range'_succ] at hr
        injection hr with h1 h2
        exact ⟨h1, h2⟩
      refine wpAny_bind (wpAny_dictEntries hoa' hda ?_)
      rw [Array.getElem?_eq_getElem hlt]
      have hlt' : x < ka.length := by rw [hla]; exact hlt
      obtain ⟨k, v, hkv⟩ : ∃ k v, ka[x] = (k, v) := ⟨_, _, rfl⟩
      have hget : ka[x]? = some (k, v) := by rw [List.getElem?_eq_getElem hlt', hkv]
      obtain ⟨hkey, hval⟩ := hpa.get? (i := x) (e := es[x]) (k := k) (v := v) (by rw [Array.getElem?_toList]; exact Array.getElem?_eq_getElem hlt) hget
      obtain ⟨k', hk', hh⟩ := hka es[x] (Array.getElem_mem hlt)
      have ekk : k' = k := knd.inj _ _ _ hk' hkey
      rw [ekk] at hh
      obtain ⟨tn, th⟩ := turn x k v s' hget hpre
      show wpAny _ _ (holding [es[x].key, es[x].val] _ >>= _) _ _ _
      rw [hh]
      refine wpAny_bind (wpAny_holding (wpAny_bind (wpAny_dictFind_of hkey hob' hdb hkb ?_)))
      cases hj : es'.findIdx? fun e => knd.is k e.key with
      | none =>
        have hn : valueAt kb k = none := by rw [← hfind k, findBy_of_findIdx?, hj]
        refine wpAny_pure ?_
        show wpAny _ _ (if (!false) = true then _ else _) _ _ _
        rw [if_pos (by decide)]
        exact wpAny_pure (wpAny_pure (tn hn))
      | some j =>
        obtain ⟨hjlt, _, _⟩ := Array.findIdx?_eq_some_iff_getElem.mp hj
        have hv' : valueAt kb k = some es'[j].val := by
          rw [← hfind k, findBy_of_findIdx?, hj]
          simp [Array.getElem?_eq_getElem hjlt]
        refine wpAny_bind (wpAny_dictEntries hob' hdb ?_)
        rw [Array.getElem?_eq_getElem hjlt]
        have he := th _ hv'
        rw [← hval] at he
        refine wpAny_holding (wpAny_mono he (fun r s2 q2 => ?_) fun _ _ x => x)
        rcases q2 with ⟨rfl, q2⟩ | ⟨rfl, q2⟩
        · obtain ⟨hoa2, _⟩ := hJ _ _ q2
          show wpAny _ _ (if (!true) = true then _ else _) _ _ _
          rw [if_neg (by decide)]
          refine wpAny_bind (wpAny_dictEpoch hoa2 hda ?_)
          rw [if_neg (by simp)]
          exact wpAny_pure ⟨rfl, x + 1, hrest, hlt, q2⟩
        · show wpAny _ _ (if (!false) = true then _ else _) _ _ _
          rw [if_pos (by decide)]
          exact wpAny_pure (wpAny_pure q2)
    · rintro q s' ⟨rfl, i, hr, hi, hpre⟩
      have hin : i = es.size := by
        rcases Nat.lt_or_ge i es.size with h | h
        · have e : es.size - i = (es.size - (i + 1)) + 1 := by omega
          rw [e, List.range'_succ] at hr; exact nomatch hr
        · exact Nat.le_antisymm hi h
      refine wpAny_pure ?_
      rw [hin, ← hla] at hpre
      exact fin s' hpre
theorem rc_dictB {a b : Addr} {oa ob : Obj} {ka kb : List (κ × Value)} {Q : Value → Shared → Prop} (ha : (a == sysModules) = false) (hb : (b == sysModules) = false)
    (da : s.heap.DictOf knd a ka) (db : s.heap.DictOf knd b kb) (hoa0 : s.heap.get? a = some oa) (hob0 : s.heap.get? b = some ob) (hu : A.units < cLine) (J : Nat → Shared → Prop) (hJ : ∀ i s', J i s' → s'.heap.get? a = some oa ∧ s'.heap.get? b = some ob)
    (turn : ∀ (i : Nat) (k : κ) (v : Value) (s' : Shared), ka[i]? = some (k, v) → J i s' → (valueAt kb k = none → Q (.bool false) s') ∧ ∀ y, valueAt kb k = some y → wpAny (model prog w) A.in1 (eqBool v y) (fun r s2 => (r = true ∧ J (i + 1) s2) ∨ (r = false ∧ Q (.bool false) s2)) E s')
    (fin : ∀ s', J ka.length s' → Q (.bool true) s') (h0 : ka.length = kb.length → J 0 s) (hne : ka.length ≠ kb.length → Q (.bool false) s) :
    wpAny (model prog w) A (richCompare .Eq (.ref a) (.ref b)) Q E s := by
  refine wpAny_richCompare_same_room (op := .Eq) da.typeIs db.typeIs PySem.F.slot_dict_eq (wpAny_call_entry PySem.F.slot_dict_eq da.typeIs PySem.F.entry_dict_eq ?_ (PySem.F.args_dict_eq_2 _ _)) hu
  show wpAny _ _ (Builtin.Dict.dictSlotArgs "__eq__" ⟨[.ref a, .ref b], []⟩ >>= _) _ _ s
  refine wpAny_bind ?_
  unfold Builtin.Dict.dictSlotArgs
  refine wpAny_bind (wpAny_notOrdered_dict da.typeIs ?_)
  show wpAny _ _ (pure (Value.ref a, Value.ref b)) _ _ s
  refine wpAny_pure ?_
  refine wpAny_bind (wpAny_isInstance (T := "dict") db.typeIs PySem.F.sub_dict_dict ?_)
  simp only [Bool.not_true, Bool.false_eq_true, if_false]
  refine wpAny_bind (wpAny_pure (wpAny_bind (wpAny_pure ?_)))
  refine wpAny_bind (samePairsB (Q := fun r s' => wpAny (model prog w) A.in1 (ret (.bool (r == true))) _ E s') ha hb da db hoa0 hob0 J hJ (fun i k v s' hg hj => ?_) (fun s' hj => ?_) h0 fun hn => ?_)
  · obtain ⟨t1, t2⟩ := turn i k v s' hg hj
    refine ⟨fun hn => wpAny_pure ⟨_, rfl, (fun x => nomatch x), by simpa using t1 hn⟩, fun y hy => wpAny_mono (t2 y hy) (fun r s2 z => z.imp id fun z => ⟨z.1, wpAny_pure ⟨_, rfl, (fun x => nomatch x), by simpa using z.2⟩⟩) fun _ _ x => x⟩
  · exact wpAny_pure ⟨_, rfl, (fun x => nomatch x), by simpa using fin s' hj⟩
  · exact wpAny_pure ⟨_, rfl, (fun x => nomatch x), by simpa using hne hn⟩
end
end Ps

/-! == of tuples and dicts whose items may be own instances: over the abstract heap. -/
namespace Ps
open PySem PySem.Spec PyProof.Rows PySem.W L2

abbrev Eqb := V → V → Bool → Hp → Prop
/-- all but dicts stay -/
def Nd (H H' : Hp) : Prop := ∀ a o, H a = some o → (∀ kvs, o ≠ .dK kvs) → H' a = some o
theorem Nd.of {H H' : Hp} (e : Same H H') : Nd H H' := fun a o h _ => e a o h
theorem Nd.trans {H H1 H2 : Hp} (e : Nd H H1) (e' : Nd H1 H2) : Nd H H2 := fun a o h n => e' a o (e a o h n) n
theorem Nd.rd {H H' : Hp} {a : Addr} {o : HO} (e : Nd H H') (n : ∀ kvs, o ≠ .dK kvs) (h : Rd H a o) : Rd H' a o := h.elim (fun h => .inl (e _ _ h n)) fun ⟨o', h⟩ => .inr ⟨o', e _ _ h (fun _ z => nomatch z)⟩
theorem Nd.tup {K : Frag} {H H' : Hp} {a : Addr} {xs : List V} (e : Nd H H') (h : SqT K H a xs) : SqT K H' a xs := h.elim (fun h => .inl (e.rd (fun _ z => nomatch z) h)) .inr
theorem Nd.lst {K : Frag} {H H' : Hp} {a : Addr} {xs : List V} (e : Nd H H') (h : SqL K H a xs) : SqL K H' a xs := h.elim (fun h => .inl (e.rd (fun _ z => nomatch z) h)) .inr
def MonB (D : Eqb) : Prop := ∀ x y b H H', Nd H H' → D x y b H → D x y b H'
def EqB (X : Cx) (n : Nat) (D : Eqb) : Prop :=
  ∀ (A : Around) (pins : List (Addr × Obj)) (s : Shared) (σ : L2.St) (H : Hp) (x y : V) (b : Bool) (u v : Value), Sub X n A → L2.Inv X pins σ H s → RelV x u → RelV y v → D x y b H →
    wpAny (model X.prog X.w) A (eqBool u v) (fun r s' => r = b ∧ ∃ H', L2.Inv X pins σ H' s' ∧ Same H H') X.xe s
def RcB (X : Cx) (n : Nat) (D : Eqb) : Prop :=
  ∀ (A : Around) (pins : List (Addr × Obj)) (s : Shared) (σ : L2.St) (H : Hp) (x y : V) (b : Bool) (u v : Value), Sub X n A → L2.Inv X pins σ H s → RelV x u → RelV y v → D x y b H →
    wpAny (model X.prog X.w) A (richCompare .Eq u v) (fun r s' => r = .bool b ∧ ∃ H', L2.Inv X pins σ H' s' ∧ Same H H') X.xe s
section
variable {X : Cx} {n m : Nat} {D D' : Eqb}
theorem EqB.mono (h : EqB X n D) (hn : n ≤ m) : EqB X m D := fun A pins s σ H x y b u v sb => h A pins s σ H x y b u v (sb.mono hn)
theorem RcB.mono (h : RcB X n D) (hn : n ≤ m) : RcB X m D := fun A pins s σ H x y b u v sb => h A pins s σ H x y b u v (sb.mono hn)
theorem EqB.or (h : EqB X n D) (h' : EqB X n D') : EqB X n (fun x y b H => D x y b H ∨ D' x y b H) := fun A pins s σ H x y b u v sb I rx ry d =>
  d.elim (fun d => h A pins s σ H x y b u v sb I rx ry d) fun d => h' A pins s σ H x y b u v sb I rx ry d
theorem MonB.or (h : MonB D) (h' : MonB D') : MonB (fun x y b H => D x y b H ∨ D' x y b H) := fun x y b H H' e d => d.elim (fun d => .inl (h x y b H H' e d)) fun d => .inr (h' x y b H H' e d)
theorem RcB.eqB (h : RcB X n D) (hr : ∀ x y b H, D x y b H → ∃ a c, x = .ref a ∧ y = .ref c ∧ (a = c → b = true)) : EqB X n D := by
  intro A pins s σ H x y b u v sb I rx ry d
  obtain ⟨a, c, rfl, rfl, hs⟩ := hr _ _ _ _ d
  cases rx
  cases ry
  by_cases hab : a = c
  · have hb := hs hab
    subst hab
    exact SeqAt.EqAt.same (A := A) (s := s) (.ref a) X.prog X.w X.xe _ ⟨hb.symm, H, I, Same.refl _⟩
  · refine GQ.eqBool_refG hab (wpAny_mono (h A pins s σ H (.ref a) (.ref c) b _ _ sb I rfl rfl d) (fun r s' q => ?_) fun _ _ x => x)
    exact ⟨b, q.1, rfl, q.2⟩
/-! flat values -/
def DFl : Eqb := fun x y b _ => flatV x = true ∧ flatV y = true ∧ b = eqV x y
theorem mon_fl : MonB DFl := fun _ _ _ _ _ _ d => d
theorem eqB_fl : EqB X 0 DFl := by
  intro A pins s σ H x y b u v sb I rx ry d
  obtain ⟨fx, fy, e⟩ := d
  subst e
  exact eqAt_V (A := A) (s := s) rx ry fx fy X.prog X.w X.xe _ ⟨rfl, H, I, Same.refl _⟩
/-! a text and a tuple -/
def DFT (K : Frag) : Eqb := fun x y b H => b = false ∧ ∃ z a xs, SqT K H a xs ∧ ((x = .str z ∧ y = .ref a) ∨ (y = .str z ∧ x = .ref a))
theorem mon_ft {K : Frag} : MonB (DFT K) := fun x y b H H' e d => by
  obtain ⟨hb, z, a, xs, h, k⟩ := d
  exact ⟨hb, z, a, xs, e.tup h, k⟩
theorem eqB_ft : EqB X 0 (DFT X.K) := by
  intro A pins s σ H x y b u v sb I rx ry d
  obtain ⟨rfl, z, a, xs, h, ⟨rfl, rfl⟩ | ⟨rfl, rfl⟩⟩ := d
  · obtain ⟨its, r, p, _⟩ := I.tuple h
    obtain ⟨t, rfl⟩ := rx
    cases ry
    exact SeqAt.EqAt.str_tuple z t p sb.room.units0 X.prog X.w X.xe _ ⟨rfl, H, I, Same.refl _⟩
  · obtain ⟨its, r, p, _⟩ := I.tuple h
    obtain ⟨t, rfl⟩ := ry
    cases rx
    exact SeqAt.EqAt.tuple_str z t p sb.room.units0 X.prog X.w X.xe _ ⟨rfl, H, I, Same.refl _⟩
/-! item by item -/
inductive PrsB (D : Eqb) (H : Hp) : List V → List V → Bool → Prop
  | nil : PrsB D H [] [] true
  | left {y : V} {ys : List V} : PrsB D H [] (y :: ys) false
  | right {x : V} {xs : List V} : PrsB D H (x :: xs) [] false
  | no {x y : V} {xs ys : List V} : D x y false H → PrsB D H (x :: xs) (y :: ys) false
  | yes {x y : V} {xs ys : List V} {b : Bool} : D x y true H → PrsB D H xs ys b → PrsB D H (x :: xs) (y :: ys) b
theorem PrsB.mon (hD : MonB D) {H H' : Hp} (e : Nd H H') {xs ys : List V} {b : Bool} (p : PrsB D H xs ys b) : PrsB D H' xs ys b := by
  induction p with
  | nil => exact .nil
  | left => exact .left
  | right => exact .right
  | no d => exact .no (hD _ _ _ _ _ e d)
  | yes d _ ih => exact .yes (hD _ _ _ _ _ e d) ih
def DTupB (K : Frag) (D : Eqb) : Eqb := fun x y b H => ∃ a c xs ys, x = .ref a ∧ y = .ref c ∧ SqT K H a xs ∧ SqT K H c ys ∧ PrsB D H xs ys b ∧ (a = c → b = true)
theorem mon_tupB {K : Frag} (hD : MonB D) : MonB (DTupB K D) := fun x y b H H' e d => by
  obtain ⟨a, c, xs, ys, hx, hy, h1, h2, p, q⟩ := d
  exact ⟨a, c, xs, ys, hx, hy, e.tup h1, e.tup h2, p.mon hD e, q⟩
theorem prs_end {H : Hp} {xs ys : List V} {b : Bool} {i : Nat} (hi : i = min xs.length ys.length) (p : PrsB D H (xs.drop i) (ys.drop i) b) : b = (xs.length == ys.length) := by
  have h : (xs.drop i).length = 0 ∨ (ys.drop i).length = 0 := by
    rw [List.length_drop, List.length_drop]
    omega
  have l1 : (xs.drop i).length = xs.length - i := List.length_drop ..
  have l2 : (ys.drop i).length = ys.length - i := List.length_drop ..
  cases hx : xs.drop i with
  | nil =>
    cases hy : ys.drop i with
    | nil =>
      rw [hx, hy] at p
      rw [hx] at l1
      rw [hy] at l2
      simp only [List.length_nil] at l1 l2
      have e : xs.length = ys.length := by omega
      cases p
      rw [e]
      simp
    | cons y r =>
      rw [hx, hy] at p
      rw [hx] at l1
      rw [hy] at l2
      simp only [List.length_nil, List.length_cons] at l1 l2
      have e : xs.length ≠ ys.length := by omega
      cases p
      simp [e]
  | cons x r =>
    cases hy : ys.drop i with
    | nil =>
      rw [hx, hy] at p
      rw [hx] at l1
      rw [hy] at l2
      simp only [List.length_nil, List.length_cons] at l1 l2
      have e : xs.length ≠ ys.length := by omega
      cases p
      simp [e]
    | cons y t =>
      rw [hx, hy] at h
      simp at h
theorem turnB (hD : MonB D) (h : EqB X n D) {A : Around} (sb : Sub X (n + 1) A) {pins : List (Addr × Obj)} {σ : L2.St} {H : Hp} {xs ys : List V} {b : Bool} {its its2 : List Value} {P : Shared → Prop} (r : Vals xs its) (r2 : Vals ys its2)
    (fin : b = false → ∀ s' H', L2.Inv X pins σ H' s' → Same H H' → P s')
    (i : Nat) (h1 : i < its.toArray.size) (h2 : i < its2.toArray.size) (s' : Shared) (l : (∃ H', L2.Inv X pins σ H' s' ∧ Same H H') ∧ PrsB D H (xs.drop i) (ys.drop i) b) :
    wpAny (model X.prog X.w) A.in1 (eqBool its.toArray[i] its2.toArray[i]) (fun r s2 => (r = true ∧ (∃ H', L2.Inv X pins σ H' s2 ∧ Same H H') ∧ PrsB D H (xs.drop (i + 1)) (ys.drop (i + 1)) b) ∨ (r = false ∧ P s2)) X.xe s' := by
  obtain ⟨⟨H1, I1, e1⟩, p⟩ := l
  have g1 : its[i]? = some its.toArray[i] := by
    have h1' : i < its.length := by simpa using h1
    rw [List.getElem?_eq_getElem h1'] <;> simp
  have g2 : its2[i]? = some its2.toArray[i] := by
    have h2' : i < its2.length := by simpa using h2
    rw [List.getElem?_eq_getElem h2'] <;> simp
  have k1 : i < xs.length := by rw [r.length]; simpa using h1
  have k2 : i < ys.length := by rw [r2.length]; simpa using h2
  obtain ⟨u, hu, ru⟩ := r.get (List.getElem?_eq_getElem k1)
  obtain ⟨v, hv, rv⟩ := r2.get (List.getElem?_eq_getElem k2)
  rw [g1] at hu
  rw [g2] at hv
  rw [Option.some.inj hu, Option.some.inj hv]
  rw [List.drop_eq_getElem_cons k1, List.drop_eq_getElem_cons k2] at p
  cases p with
  | no d =>
    refine wpAny_mono (h A.in1 pins s' σ H1 _ _ _ u v sb.in1 I1 ru rv (hD _ _ _ _ _ (Nd.of e1) d)) (fun r s2 q => ?_) fun _ _ x => x
    obtain ⟨hr, H2, I2, e2⟩ := q
    exact .inr ⟨hr, fin rfl s2 H2 I2 (e1.trans e2)⟩
  | yes d p =>
    refine wpAny_mono (h A.in1 pins s' σ H1 _ _ _ u v sb.in1 I1 ru rv (hD _ _ _ _ _ (Nd.of e1) d)) (fun r s2 q => ?_) fun _ _ x => x
    obtain ⟨hr, H2, I2, e2⟩ := q
    exact .inl ⟨hr, ⟨H2, I2, e1.trans e2⟩, p⟩
theorem rcB_tup (hD : MonB D) (h : EqB X n D) : RcB X (n + 1) (DTupB X.K D) := by
  intro A pins s σ H x y b u v sb I rx ry d
  obtain ⟨a, c, xs, ys, rfl, rfl, ha, hc, p, _⟩ := d
  cases rx
  cases ry
  obtain ⟨its, r, e, z⟩ := I.tuple ha
  obtain ⟨its2, r2, e2, z2⟩ := I.tuple hc
  refine rc_tupB sb.room.units0 (fun i s' => (∃ H', L2.Inv X pins σ H' s' ∧ Same H H') ∧ PrsB D H (xs.drop i) (ys.drop i) b) e e2 (turnB hD h sb r r2 fun hb s' H' I' e' => ⟨by rw [hb], H', I', e'⟩) (fun s' q => ?_) ⟨⟨H, I, Same.refl _⟩, p⟩
  obtain ⟨⟨H', I', e'⟩, p⟩ := q
  refine ⟨?_, H', I', e'⟩
  rw [prs_end (by rw [List.size_toArray, List.size_toArray, ← r.length, ← r2.length]) p, List.size_toArray, List.size_toArray, ← r.length, ← r2.length]
theorem eqB_tup (hD : MonB D) (h : EqB X n D) : EqB X (n + 1) (DTupB X.K D) := (rcB_tup hD h).eqB fun _ _ _ _ d => let ⟨a, c, _, _, hx, hy, _, _, _, q⟩ := d; ⟨a, c, hx, hy, q⟩
/-- != of two tuples -/
theorem op_neTup (hD : MonB D) (h : EqB X n D) (hr : Room (n + 1) X.A) : OpR X (compareOp .NotEq) (fun x y H Q => ∃ b, DTupB X.K D x y b H ∧ ∀ H', Same H H' → Q (.bl (!b)) H') := by
  intro pins s σ H x y u v Q I rx ry d
  obtain ⟨b, ⟨a, c, xs, ys, rfl, rfl, ha, hc, p, _⟩, k⟩ := d
  cases rx
  cases ry
  obtain ⟨its, r, e, z⟩ := I.tuple ha
  obtain ⟨its2, r2, e2, z2⟩ := I.tuple hc
  show wpAny _ _ (richCompare .NotEq _ _) _ _ _
  refine rc_tupN hr.units0 (fun i s' => (∃ H', L2.Inv X pins σ H' s' ∧ Same H H') ∧ PrsB D H (xs.drop i) (ys.drop i) b) e e2 (turnB hD h (⟨hr, rfl⟩ : Sub X (n + 1) X.A) r r2 fun hb s' H' I' e' => ⟨.bl true, H', I', rfl, by have := k H' e'; rw [hb] at this; exact this⟩) (fun s' q => ?_) ⟨⟨H, I, Same.refl _⟩, p⟩
  obtain ⟨⟨H', I', e'⟩, p⟩ := q
  refine ⟨.bl (!b), H', I', ?_, k H' e'⟩
  rw [prs_end (by rw [List.size_toArray, List.size_toArray, ← r.length, ← r2.length]) p, List.size_toArray, List.size_toArray, ← r.length, ← r2.length]
  rfl
/-! dicts -/
inductive EqD (D : Eqb) (H : Hp) (ls : List (Key × V)) : List (Key × V) → Bool → Prop
  | nil : EqD D H ls [] true
  | miss {k : Key} {v : V} {r : List (Key × V)} : valV ls k = none → EqD D H ls ((k, v) :: r) false
  | no {k : Key} {v y : V} {r : List (Key × V)} : valV ls k = some y → D v y false H → EqD D H ls ((k, v) :: r) false
  | yes {k : Key} {v y : V} {r : List (Key × V)} {b : Bool} : valV ls k = some y → D v y true H → EqD D H ls r b → EqD D H ls ((k, v) :: r) b
theorem EqD.mon (hD : MonB D) {H H' : Hp} (e : Nd H H') {ls ks : List (Key × V)} {b : Bool} (p : EqD D H ls ks b) : EqD D H' ls ks b := by
  induction p with
  | nil => exact .nil
  | miss h => exact .miss h
  | no h d => exact .no h (hD _ _ _ _ _ e d)
  | yes h d _ ih => exact .yes h (hD _ _ _ _ _ e d) ih
def DDct (D : Eqb) : Eqb := fun x y b H => ∃ a c ks ls, x = .ref a ∧ y = .ref c ∧ a ≠ c ∧ H a = some (.dK ks) ∧ H c = some (.dK ls) ∧ ((ks.length ≠ ls.length ∧ b = false) ∨ (ks.length = ls.length ∧ EqD D H ls ks b))
theorem rcB_dct (hD : MonB D) (h : EqB X n D) : RcB X (n + 1) (DDct D) := by
  intro A pins s σ H x y b u v sb I rx ry d
  obtain ⟨a, c, ks, ls, rfl, rfl, hac, ha, hc, p⟩ := d
  cases rx
  cases ry
  have ma : Mut (some (HO.dK ks)) := trivial
  have mc : Mut (some (HO.dK ls)) := trivial
  obtain ⟨oa, I1⟩ := I.lock ha ma
  have hc1 : (upd H a (.frz oa (.dK ks))) c = some (.dK ls) := by rw [upd_ne (Ne.symm hac)]; exact hc
  obtain ⟨oc, I2⟩ := I1.lock hc1 mc
  have ha2 : (upd (upd H a (.frz oa (.dK ks))) c (.frz oc (.dK ls))) a = some (.frz oa (.dK ks)) := by rw [upd_ne hac, upd_same]
  have hc2 : (upd (upd H a (.frz oa (.dK ks))) c (.frz oc (.dK ls))) c = some (.frz oc (.dK ls)) := upd_same
  have nd : Nd H (upd (upd H a (.frz oa (.dK ks))) c (.frz oc (.dK ls))) := fun e o he hn => by
    have n1 : e ≠ a := fun z => by rw [z, ha] at he; exact hn _ (Option.some.inj he).symm
    have n2 : e ≠ c := fun z => by rw [z, hc] at he; exact hn _ (Option.some.inj he).symm
    rw [upd_ne n2, upd_ne n1]
    exact he
  have back : ∀ s' H', L2.Inv X pins σ H' s' → Same (upd (upd H a (.frz oa (.dK ks))) c (.frz oc (.dK ls))) H' → ∃ H3, L2.Inv X pins σ H3 s' ∧ Same H H3 := fun s' H' I' e' => by
    have J1 := I'.unlock (e' _ _ hc2) (I1.nofrz hc1 mc)
    have J2 := J1.unlock (d := a) (od := oa) (u := .dK ks) (by rw [upd_ne hac]; exact e' _ _ ha2) (I.nofrz ha ma)
    refine ⟨_, J2, fun e o he => ?_⟩
    by_cases n1 : e = a
    · rw [n1] at he ⊢
      rw [upd_same]
      exact ha.symm.trans he
    · rw [upd_ne n1]
      by_cases n2 : e = c
      · rw [n2] at he ⊢
        rw [upd_same]
        exact hc.symm.trans he
      · rw [upd_ne n2]
        exact e' _ _ (by rw [upd_ne n2, upd_ne n1]; exact he)
  generalize (upd (upd H a (.frz oa (.dK ks))) c (.frz oc (.dK ls))) = H2 at *
  obtain ⟨hoa, _, ya, va, ra, da⟩ := (show ObjOk X.prog X.w H2 s.heap a (.frz oa (.dK ks)) from I2.hok a _ ha2)
  obtain ⟨hoc, _, yc, vc, rc, dc⟩ := (show ObjOk X.prog X.w H2 s.heap c (.frz oc (.dK ls)) from I2.hok c _ hc2)
  refine rc_dictB (knd := mixKind X.prog X.w) ya yc da dc hoa hoc sb.room.units0 (fun i s' => (∃ H', L2.Inv X pins σ H' s' ∧ Same H2 H') ∧ EqD D H2 ls (ks.drop i) b) (fun i s' q => ?_) (fun i k v s' hg q => ?_) (fun s' q => ?_) (fun hl => ?_) (fun hl => ?_)
  · obtain ⟨⟨H', I', e'⟩, _⟩ := q
    exact ⟨(show ObjOk X.prog X.w H' s'.heap a (.frz oa (.dK ks)) from I'.hok a _ (e' _ _ ha2)).1, (show ObjOk X.prog X.w H' s'.heap c (.frz oc (.dK ls)) from I'.hok c _ (e' _ _ hc2)).1⟩
  · obtain ⟨⟨H', I', e'⟩, q⟩ := q
    obtain ⟨x, hx, rx⟩ := KV.at' ra hg
    have hi' := (List.getElem?_eq_some_iff.mp hx).1
    rw [List.drop_eq_getElem_cons hi', (List.getElem?_eq_some_iff.mp hx).2] at q
    have hv := rc.val k
    cases q with
    | miss hn =>
      rw [hn] at hv
      exact ⟨fun _ => ⟨rfl, back s' H' I' e'⟩, fun y hy => by rw [hy] at hv; exact hv.elim⟩
    | no hy d =>
      rw [hy] at hv
      refine ⟨fun hn => by rw [hn] at hv; exact hv.elim, fun y' hy' => ?_⟩
      rw [hy'] at hv
      refine wpAny_mono (h A.in1 pins s' σ H' _ _ _ v y' sb.in1 I' rx hv (hD _ _ _ _ _ (Nd.of e') d)) (fun r s2 z => ?_) fun _ _ x => x
      obtain ⟨hr, H3, I3, e3⟩ := z
      exact .inr ⟨hr, rfl, back s2 H3 I3 (e'.trans e3)⟩
    | yes hy d q =>
      rw [hy] at hv
      refine ⟨fun hn => by rw [hn] at hv; exact hv.elim, fun y' hy' => ?_⟩
      rw [hy'] at hv
      refine wpAny_mono (h A.in1 pins s' σ H' _ _ _ v y' sb.in1 I' rx hv (hD _ _ _ _ _ (Nd.of e') d)) (fun r s2 z => ?_) fun _ _ x => x
      obtain ⟨hr, H3, I3, e3⟩ := z
      exact .inl ⟨hr, ⟨H3, I3, e'.trans e3⟩, q⟩
  · obtain ⟨⟨H', I', e'⟩, q⟩ := q
    rw [← ra.length, List.drop_length] at q
    cases q
    exact ⟨rfl, back s' H' I' e'⟩
  · rcases p with ⟨hn, _⟩ | ⟨_, q⟩
    · exact absurd (by rw [ra.length, rc.length]; exact hl) hn
    · exact ⟨⟨H2, I2, Same.refl _⟩, q.mon hD nd⟩
  · rcases p with ⟨_, hb⟩ | ⟨hl', _⟩
    · exact ⟨by rw [hb], back s H2 I2 (Same.refl _)⟩
    · exact absurd (by rw [← ra.length, ← rc.length]; exact hl') hl
/-- x == y as an expression -/
def rEqB (D : Eqb) : R2 := fun x y H Q => ∃ b, D x y b H ∧ ∀ H', Same H H' → Q (.bl b) H'
theorem op_eqB (h : RcB X n D) (hr : Room n X.A) : OpR X (compareOp .Eq) (rEqB D) := by
  intro pins s σ H x y v u Q I rx ry hq
  obtain ⟨b, d, q⟩ := hq
  show wpAny (model X.prog X.w) X.A (richCompare .Eq v u) (EP X pins σ Q) X.xe s
  refine wpAny_mono (h X.A pins s σ H x y b v u ⟨hr, rfl⟩ I rx ry d) (fun r s' z => ?_) fun _ _ x => x
  obtain ⟨hr', H', I', e⟩ := z
  subst hr'
  exact ⟨.bl b, H', I', rfl, q H' e⟩
/-! own instances -/
def DOwn (C : Addr) (R : Eqb) : Eqb := fun x y b H => ∃ a c dx dy fs gs, x = .ref a ∧ y = .ref c ∧ H a = some (.ins C dx fs) ∧ H c = some (.ins C dy gs) ∧ R x y b H ∧ (a = c → b = true)
theorem mon_own {C : Addr} {R : Eqb} (hR : MonB R) : MonB (DOwn C R) := fun x y b H H' e d => by
  obtain ⟨a, c, dx, dy, fs, gs, hx, hy, h1, h2, r, q⟩ := d
  exact ⟨a, c, dx, dy, fs, gs, hx, hy, e _ _ h1 (fun _ z => nomatch z), e _ _ h2 (fun _ z => nomatch z), hR _ _ _ _ _ e r, q⟩
theorem rcB_own {Z : Cz} {C : Addr} {k : Nat} {ps : List Str} {sp : Sp} {R : Eqb} (cal : CalS Z CX0 k C "__eq__" ps sp) (hsp : ∀ x y b H Q, R x y b H → (∀ H', Same H H' → Q (.bl b) H') → sp [x, y] H Q E0) (z : InZ Z X := by exact ⟨rfl, rfl, rfl, rfl, rfl⟩) : RcB X k (DOwn C R) := by
  obtain ⟨f, fd, G, O, hb⟩ := cal
  have F := z.ok G
  rw [← z.K] at O hb
  intro A pins s σ H x y b u v sb I rx ry d
  obtain ⟨a, c, dx, dy, fs, gs, rfl, rfl, ha, hc', hr, _⟩ := d
  cases rx
  cases ry
  obtain ⟨mA, J, _⟩ := ins_get I.hok ha
  obtain ⟨mB, J', _⟩ := ins_get I.hok hc'
  obtain ⟨od, J, _⟩ := J.look
  obtain ⟨od', J', _⟩ := J'.look
  obtain ⟨m, hF⟩ := I.fr
  refine PySem.W.cmp_K (op := .Eq) (tb := .ref C) sb.room.units0 hF I.ok.mod.kin J J'.type (by simp [PySem.W.notFirst]) O.fn O.isf ?_
  have hs := hsp _ _ _ _ (fun v H' => v = .bl b ∧ Same H H') hr fun H' e => ⟨rfl, e⟩
  have e0 : Env0 X.prog X.w X.K X.mg X.base A X.stack s H := by
    have e := I.env0
    exact ⟨by rw [sb.fr]; exact e.frames, e.mod, e.bs, e.bsz, e.funs, e.frf, e.hok, e.bare⟩
  have hl := F.len _ _ _ _ hs
  have r2 : Vals [V.ref a, V.ref c] [Value.ref a, Value.ref c] := .cons rfl (.cons rfl .nil)
  refine wpAny_call (codeAny_mono (F.run A X.stack s H ⟨[.ref a, .ref c], []⟩ [.ref a, .ref c] [.ref a, .ref c] _ E0 sb.room e0 (by
    have := hb s [.ref a, .ref c] I.kIn (by simpa using hl)
    simpa using this) r2 hs) fun r s' hq => ?_)
  cases r with
  | error e => exact (pass0 (X := X)) pins σ H s e s' I hq
  | ok fl =>
    cases fl with
    | ret w =>
      obtain ⟨z, H', I', rz, ez, ex⟩ := I.after hq
      subst ez
      cases rz
      exact ⟨rfl, H', I', ex⟩
    | next => exact False.elim hq
    | brk => exact False.elim hq
    | cont => exact False.elim hq
theorem eqB_own {Z : Cz} {C : Addr} {k : Nat} {ps : List Str} {sp : Sp} {R : Eqb} (cal : CalS Z CX0 k C "__eq__" ps sp) (hsp : ∀ x y b H Q, R x y b H → (∀ H', Same H H' → Q (.bl b) H') → sp [x, y] H Q E0) (z : InZ Z X := by exact ⟨rfl, rfl, rfl, rfl, rfl⟩) : EqB X k (DOwn C R) :=
  (rcB_own cal hsp z).eqB fun _ _ _ _ d => let ⟨a, c, _, _, _, _, hx, hy, _, _, _, q⟩ := d; ⟨a, c, hx, hy, q⟩
end
end Ps

/-! == of a dict with itself. -/
namespace Ps
open PySem PySem.Spec PyProof.Rows PySem.W L2
theorem valueAt_at {κ : Type} [DecidableEq κ] : ∀ {kvs : List (κ × Value)} {i : Nat} {k : κ} {v : Value}, (kvs.map (·.1)).Nodup → kvs[i]? = some (k, v) → valueAt kvs k = some v
  | [], _, _, _, _, h => by simp at h
  | (k0, v0) :: r, 0, k, v, _, h => by
    obtain ⟨rfl, rfl⟩ := Prod.mk.inj (Option.some.inj h)
    simp [valueAt, List.find?_cons]
  | (k0, v0) :: r, i + 1, k, v, hn, h => by
    rw [List.map_cons, List.nodup_cons] at hn
    have hr : r[i]? = some (k, v) := h
    have hm : k ∈ r.map (·.1) := List.mem_map.mpr ⟨(k, v), List.mem_of_getElem? hr, rfl⟩
    have hne : ¬ k0 = k := fun z => hn.1 (z ▸ hm)
    have := valueAt_at hn.2 hr
    simp only [valueAt, List.find?_cons] at this ⊢
    rw [decide_eq_false hne]
    exact this
def DDctS : Eqb := fun x y b H => ∃ a ks, x = .ref a ∧ y = .ref a ∧ H a = some (.dK ks) ∧ b = true
theorem hits_self {A : Around} {s : Shared} {κ : Type} [DecidableEq κ] {kb : List (κ × Value)} : ∀ {l : List (κ × Value)}, (∀ p ∈ l, valueAt kb p.1 = some p.2) → KeqHits A s kb l true
  | [], _ => .nil
  | (k, v) :: r, h => by
    have := KeqHits.hit (A := A) (s := s) (h (k, v) (List.mem_cons_self ..)) (SeqAt.EqAt.same v) (hits_self fun p hp => h p (List.mem_cons_of_mem _ hp))
    simpa using this
section
variable {X : Cx} {n : Nat} {D D' : Eqb}
theorem RcB.or (h : RcB X n D) (h' : RcB X n D') : RcB X n (fun x y b H => D x y b H ∨ D' x y b H) := fun A pins s σ H x y b u v sb I rx ry d =>
  d.elim (fun d => h A pins s σ H x y b u v sb I rx ry d) fun d => h' A pins s σ H x y b u v sb I rx ry d
theorem rcB_dctS : RcB X 0 DDctS := by
  intro A pins s σ H x y b u v sb I rx ry d
  obtain ⟨a, ks, rfl, rfl, ha, rfl⟩ := d
  cases rx
  cases ry
  obtain ⟨_, ya, va, ra, da⟩ := (show ObjOk X.prog X.w H s.heap a (.dK ks) from I.hok a _ ha)
  have hnd : (va.map (·.1)).Nodup := by obtain ⟨_, _, _, _, _, _, _, _, h⟩ := da; exact h
  show wpAny _ _ (compareOp .Eq _ _) _ _ _
  refine PySem.W.keq_eq (knd := mixKind X.prog X.w) (r := true) ya ya da da sb.room.units0 (fun _ => hits_self fun p hp => ?_) ⟨by simp, H, I, Same.refl _⟩
  obtain ⟨i, hi, he⟩ := List.mem_iff_getElem.mp hp
  exact valueAt_at hnd (by rw [List.getElem?_eq_getElem hi, he])
theorem EqD.step {H : Hp} {ls r : List (Key × V)} {k : Key} {v y : V} {e b : Bool} (hy : valV ls k = some y) (d : D v y e H) (h : EqD D H ls r b) : EqD D H ls ((k, v) :: r) (e && b) := by
  cases e with
  | false => exact .no hy d
  | true => exact .yes hy d h
end
end Ps

/-! Dict displays that begin with another dict's pairs: {**d, k: v}, {**d, **e}. -/
namespace Ps
open PySem PySem.Spec PyProof.Rows PySem.W L2
section
variable {prog : Program} {w : World} {K : Type} [DecidableEq K] {knd : KeyKind prog w K} {A : Around} {E : Value → Shared → Prop} {s : Shared}
theorem dictPut_pairs {d : Addr} {kvs : List (K × Value)} {k : K} {key v : Value} {Q : Unit → Shared → Prop} (hkey : knd.is k key = true) (hm : s.heap.DictOf knd d kvs)
    (hQ : ∀ h', h'.DictOf knd d (stored kvs k v) → Heap.SameBut d s.heap h' → Q () { s with heap := h' }) (hsz : kvs.length ≤ sizeLine) :
    wpAny (model prog w) A (dictPut d (knd.hash k) key v) Q E s := by
  obtain ⟨o, es, ep, ho, hc, hd, hk, hp, hn⟩ := hm
  have hes : es.size ≤ sizeLine := by have e1 := hp.length; have e2 : es.toList.length = es.size := by simp
                                      omega
  unfold dictPut
  refine wpAny_bind (wpAny_dictFind_of hkey ho hd hk ?_)
  have hidx : (es.findIdx? fun e => knd.is k e.key) = kvs.findIdx? fun kv => decide (kv.1 = k) := by
    rw [← hp.findIdx k]; obtain ⟨l⟩ := es; simp
  cases hi : es.findIdx? fun e => knd.is k e.key with
  | some i =>
    refine wpAny_updateDict ho hd (hQ _ ⟨_, _, ep, Heap.get?_update_self _ ho (Obj.isFreed_of_dict (Obj.data_mapDict hd _)),
      hc.mapDict _, Obj.data_mapDict hd _, hk.modify _ _, ?_, ?_⟩ (Heap.SameBut.update ..))
    · rw [stored, if_pos (any_of_findIdx_some (hidx ▸ hi))]
      have hl : (es.toList.findIdx? fun e => knd.is k e.key) = some i := by rw [← hi]; obtain ⟨l⟩ := es; simp
      have := hp.modify hn hl v
      obtain ⟨l⟩ := es
      simpa using this
    · rw [stored, if_pos (any_of_findIdx_some (hidx ▸ hi)), keys_map_store]; exact hn
  | none =>
    have hnot : k ∉ kvs.map (·.1) := not_mem_of_findIdx_none (hidx ▸ hi)
    have hany : ¬ (kvs.any fun kv => decide (kv.1 = k)) = true := by
      rw [List.any_eq_true]; rintro ⟨kv, hkv, he⟩
      exact hnot (List.mem_map.mpr ⟨kv, hkv, of_decide_eq_true he⟩)
    refine wpAny_updateDictKeys (hz := hes) ho hd (hQ _ ⟨_, _, ep + 1, Heap.get?_update_self _ ho (Obj.isFreed_of_dict (Obj.data_mapDictKeys hd _)),
      hc.mapDictKeys _, Obj.data_mapDictKeys hd _, hk.push hkey _, ?_, ?_⟩ (Heap.SameBut.update ..))
    · rw [stored, if_neg hany]
      have := hp.append hkey (knd.hash k) v
      obtain ⟨l⟩ := es
      simpa using this
    · rw [stored, if_neg hany, List.map_append, List.nodup_append]
      refine ⟨hn, by simp, ?_⟩
      intro a ha b hb
      simp only [List.map_cons, List.map_nil, List.mem_singleton] at hb
      subst hb
      exact fun e => hnot (e ▸ ha)
theorem mergeMapping_pairs {d o : Addr} {kvs more : List (K × Value)} {Q : Unit → Shared → Prop} (hkr : ∀ k v, knd.is k v = true → ∀ a, v ≠ .ref a) (hdo : d ≠ o) (hoS : (o == sysModules) = false)
    (hd : s.heap.DictOf knd d kvs) (ho : s.heap.DictOf knd o more) (hsz : kvs.length + more.length ≤ sizeLine)
    (hQ : ∀ h', h'.DictOf knd d (merged kvs more) → Heap.SameBut d s.heap h' → Q () { s with heap := h' }) :
    wpAny (model prog w) A (mergeMapping d (.ref o) false) Q E s := by
  obtain ⟨od, esd, epd, hod, hcd, hdd, hkd, hpd, hnd⟩ := id hd
  obtain ⟨oo, eso, epo, hoo, hco, hdo', hko, hpo, hno⟩ := id ho
  have hlen : more.length = eso.size := by rw [← hpo.length]; simp
  unfold mergeMapping
  refine wpAny_bind (m := isInstance (.ref o) (.type "dict")) (wpAny_isInstance ho.typeIs PySem.F.sub_dict_dict ?_)
  dsimp only
  rw [if_pos rfl]
  refine wpAny_bind (m := specialOf (.ref o) "__iter__") (wpAny_specialOf ho.typeIs PySem.F.slot_dict_iter.lookup ?_)
  refine wpAny_bind (wpAny_pure ?_)
  simp only [beq_self_eq_true]
  rw [if_neg (show ¬ (o == sysModules) = true by rw [hoS]; exact Bool.false_ne_true)]
  refine wpAny_bind (wpAny_dictEntries hod hdd ?_)
  have loop : wpAny (model prog w) A (do
      let size := (← dictEntries o).size
      let epoch ← dictEpoch o
      for i in List.range size do
        let some e := (← dictEntries o)[i]? | unsupported "dict.changed-during-merge"
        holding [e.key, e.val] do
          if false = true then
            if (← dictFind d e.key e.hash).isSome then rule "dict.merge.duplicate-key"; raiseNew (← newExc (.type "KeyError") [e.key])
          dictPut d e.hash e.key e.val
        if (← dictEpoch o) != epoch then unsupported "dict.changed-during-merge") Q E s := by
    refine wpAny_bind (wpAny_dictEntries hoo hdo' ?_)
    refine wpAny_bind (wpAny_dictEpoch hoo hdo' ?_)
    refine wpAny_bind ?_
    refine wpAny_forIn_list _
      (fun rest _ s' => ∃ h' i, s' = { s with heap := h' } ∧ rest = (List.range eso.size).drop i ∧ i ≤ eso.size ∧ h'.DictOf knd d (merged kvs (more.take i)) ∧ h'.get? o = some oo ∧ Heap.SameBut d s.heap h')
      _ ?_ ?_ _ _ ⟨s.heap, 0, rfl, by simp, Nat.zero_le _, by simpa [merged] using hd, hoo, Heap.SameBut.refl _ _⟩
    · rintro x rest b s' ⟨h', i, rfl, hr, hi, hd', hoo', hs'⟩
      have hlt : i < eso.size := by
        rcases Nat.lt_or_ge i eso.size with h | h
        · exact h
        · rw [List.drop_of_length_le (by simpa using h)] at hr; cases hr
      obtain ⟨rfl, hrest⟩ : x = i ∧ rest = (List.range eso.size).drop (i + 1) := by
        rw [List.drop_eq_getElem_cons (by simpa using hlt)] at hr
        injection hr with h1 h2
        exact ⟨by simpa using h1, h2⟩
      refine wpAny_bind (wpAny_dictEntries hoo' hdo' ?_)
      rw [Array.getElem?_eq_getElem hlt]
      obtain ⟨kv, hkv⟩ : ∃ kv, more[x]? = some kv := ⟨more[x]'(by rw [hlen]; exact hlt), List.getElem?_eq_getElem _⟩
      obtain ⟨k, v⟩ := kv
      obtain ⟨hkey, hval⟩ := hpo.get? (e := eso[x]) (by simp [hlt]) hkv
      obtain ⟨k', hkey', hhash⟩ := hko eso[x] (Array.getElem_mem hlt)
      obtain rfl : k' = k := knd.inj _ _ _ hkey' hkey
      have hmx : (merged kvs (more.take x)).length ≤ sizeLine := by
        have e1 := merged_length_le kvs (more.take x)
        have e2 : (more.take x).length ≤ more.length := by rw [List.length_take]; omega
        omega
      simp only [Bool.false_eq_true, if_false]
      show wpAny _ _ (holding [eso[x].key, eso[x].val] (dictPut d eso[x].hash eso[x].key eso[x].val) >>= _) _ _ _
      rw [hhash, hval]
      refine wpAny_bind (wpAny_holding (dictPut_pairs hkey hd' (fun h'' hd'' hs'' => ?_) hmx))
      have hoo'' : h''.get? o = some oo := (hs''.2 o (Ne.symm hdo)).trans hoo'
      refine wpAny_bind (wpAny_dictEpoch hoo'' hdo' ?_)
      rw [if_neg (by simp)]
      exact wpAny_pure ⟨h'', x + 1, rfl, hrest, hlt, by rw [merged_take_succ kvs more x (k', v) hkv]; exact hd'', hoo'', hs'.trans hs''⟩
    · rintro b s' ⟨h', i, rfl, hr, hi, hd', hoo', hs'⟩
      have hin : i = eso.size := by
        rcases Nat.lt_or_ge i eso.size with h | h
        · rw [List.drop_eq_getElem_cons (by simpa using h)] at hr; cases hr
        · exact Nat.le_antisymm hi h
      refine wpAny_pure (hQ h' ?_ hs')
      rw [hin, ← hlen, List.take_length] at hd'; exact hd'
  split
  · refine wpAny_bind (wpAny_dictEntries hoo hdo' ?_)
    refine wpAny_bind ?_
    rw [← Array.forIn_toList]
    refine wpAny_forIn_list _ (fun rest _ s' => s' = s ∧ ∀ e ∈ rest, e ∈ eso.toList) _ ?_ ?_ _ _ ⟨rfl, fun _ h => h⟩
    · rintro e rest b s' ⟨rfl, hm⟩
      have he : e ∈ eso := Array.mem_toList_iff.mp (hm e (List.mem_cons_self ..))
      obtain ⟨k', hk', _⟩ := hko e he
      have hne := hkr _ _ hk'
      obtain ⟨eh, ek, ev⟩ := e
      dsimp only at hne ⊢
      cases ek with
      | ref a => exact absurd rfl (hne a)
      | _ => exact wpAny_pure ⟨rfl, fun e h => hm e (List.mem_cons_of_mem _ h)⟩
    · rintro b s' ⟨rfl, _⟩
      exact loop
  · exact loop
end
end Ps

/-! Dict displays that begin with another dict's pairs: the rules. -/
namespace Ps
open PySem PySem.Spec PyProof.Rows PySem.W L2
theorem gatherD (d : Addr) (f : (Option (Sem Value) × Sem Value) → (Option Addr × List (Sem Value × Sem Value)) → Sem (ForInStep (Option Addr × List (Sem Value × Sem Value))))
    (hf : ∀ (p : Sem Value × Sem Value) (run : List (Sem Value × Sem Value)), run.length + 1 < 17 → f (some p.1, p.2) (some d, run) = pure (.yield (some d, run ++ [p]))) :
    ∀ (items run : List (Sem Value × Sem Value)), run.length + items.length < 17 → forIn (items.map fun p => (some p.1, p.2)) ((some d : Option Addr), run) f = pure (some d, run ++ items)
  | [], run, _ => by simp
  | p :: rest, run, h => by
    rw [List.map_cons, List.forIn_cons, hf p run (by simp at h; omega), pure_bind]
    have := gatherD d f hf rest (run ++ [p]) (by simp at h ⊢; omega)
    simpa using this
section
variable {prog : Program} {w : World} {A : Around} {E : Value → Shared → Prop} {s : Shared}
/-- {**v, pairs} -/
theorem display_star {v : Sem Value} {pairs : List (Sem Value × Sem Value)} {Q : Value → Shared → Prop} (h0 : pairs ≠ []) (hlen : pairs.length < 17)
    (h : wpAny (model prog w) A v (fun m s1 => wpAny (model prog w) A (mergeMapping s.heap.objs.size m false) (fun _ s2 => wpAny (model prog w) A (subDict pairs) (fun sub s3 =>
      wpAny (model prog w) A (mergeMapping s.heap.objs.size (.ref sub) false) (fun _ s4 => Q (.ref s.heap.objs.size) s4) (fun _ _ => False) s3) E s2) (fun _ _ => False) s1) E { s with heap := s.heap.push { cls := .type "dict", data := .dict #[] } }) :
    wpAny (model prog w) A (dictDisplay ((none, v) :: pairs.map fun p => (some p.1, p.2))) Q E s := by
  unfold dictDisplay
  dsimp only
  rw [List.forIn_cons]
  refine wpAny_bind (wpAny_bind ?_)
  simp only [List.isEmpty_nil, if_true, pure_bind]
  refine wpAny_bind (wpAny_alloc ?_)
  refine wpAny_bind (wpAny_holding (wpAny_mono h (fun m s1 h1 => ?_) fun _ _ e => e))
  refine wpAny_bind (wpAny_onRaise (wpAny_tryCatch (wpAny_onRaise (wpAny_holding (wpAny_mono h1 (fun _ s2 h2 => ?_) fun _ _ z => z.elim)))))
  refine wpAny_pure ?_
  dsimp only
  rw [gatherD s.heap.objs.size _ (fun p run h => by
    have hne : ((run ++ [(p.1, p.2)]).length == 17) = false := by simp; omega
    simp only [hne, Bool.false_eq_true, if_false]) pairs [] (by simpa using hlen)]
  refine wpAny_pure ?_
  dsimp only
  rw [List.nil_append, if_neg (by simpa using h0)]
  refine wpAny_bind (wpAny_bind (wpAny_holding (wpAny_mono h2 (fun sub s3 h3 => ?_) fun _ _ e => e)))
  refine wpAny_bind (wpAny_onRaise (wpAny_holding (wpAny_mono h3 (fun _ s4 h4 => ?_) fun _ _ z => z.elim)))
  exact wpAny_pure (wpAny_pure h4)
/-- {**v, **u} -/
theorem display_star2 {v u : Sem Value} {Q : Value → Shared → Prop}
    (h : wpAny (model prog w) A v (fun m s1 => wpAny (model prog w) A (mergeMapping s.heap.objs.size m false) (fun _ s2 => wpAny (model prog w) A u (fun m2 s3 =>
      wpAny (model prog w) A (mergeMapping s.heap.objs.size m2 false) (fun _ s4 => Q (.ref s.heap.objs.size) s4) (fun _ _ => False) s3) E s2) (fun _ _ => False) s1) E { s with heap := s.heap.push { cls := .type "dict", data := .dict #[] } }) :
    wpAny (model prog w) A (dictDisplay [(none, v), (none, u)]) Q E s := by
  unfold dictDisplay
  dsimp only
  rw [List.forIn_cons]
  refine wpAny_bind (wpAny_bind ?_)
  simp only [List.isEmpty_nil, if_true, pure_bind]
  refine wpAny_bind (wpAny_alloc ?_)
  refine wpAny_bind (wpAny_holding (wpAny_mono h (fun m s1 h1 => ?_) fun _ _ e => e))
  refine wpAny_bind (wpAny_onRaise (wpAny_tryCatch (wpAny_onRaise (wpAny_holding (wpAny_mono h1 (fun _ s2 h2 => ?_) fun _ _ z => z.elim)))))
  refine wpAny_pure ?_
  dsimp only
  rw [List.forIn_cons]
  refine wpAny_bind ?_
  dsimp only
  simp only [List.isEmpty_nil, if_true, pure_bind]
  refine wpAny_bind (wpAny_holding (wpAny_mono h2 (fun m2 s3 h3 => ?_) fun _ _ e => e))
  refine wpAny_bind (wpAny_onRaise (wpAny_tryCatch (wpAny_onRaise (wpAny_holding (wpAny_mono h3 (fun _ s4 h4 => ?_) fun _ _ z => z.elim)))))
  refine wpAny_pure ?_
  dsimp only
  rw [List.forIn_nil]
  refine wpAny_pure ?_
  dsimp only
  simp only [List.isEmpty_nil, if_true, pure_bind]
  exact wpAny_pure h4
end
section
variable {X : Cx} {pos : Pos} {e e2 : Expr} {te te2 : TE} {keys : List (Option Expr)} {values : List Expr} {trs : List (TE × TE)}
theorem mix_nref {k : Key} {v : Value} (h : (mixKind X.prog X.w).is k v = true) (a : Addr) : v ≠ .ref a := by
  rcases keyIs_shape h with ⟨i, t, rfl, rfl⟩ | ⟨x, t, rfl, rfl⟩ <;> exact fun z => nomatch z
/-- the pairs of the dict at o go into the dict at d -/
theorem inv_merge {pins : List (Addr × Obj)} {σ : L2.St} {H : Hp} {s : Shared} {d o : Addr} {kvs more : List (Key × V)} {Q : Unit → Shared → Prop} {E : Value → Shared → Prop} (I : L2.Inv X pins σ H s) (hd : H d = some (.dK kvs)) (ho : Rd H o (.dK more)) (hne : d ≠ o) (hz : kvs.length + more.length ≤ 1000)
    (h : ∀ s', L2.Inv X pins σ (upd H d (.dK (mergeK kvs more))) s' → Q () s') : wpAny (model X.prog X.w) X.A (mergeMapping d (.ref o) false) Q E s := by
  obtain ⟨z1, n1, vs, r1, d1⟩ := dk_of I.hok hd
  obtain ⟨z2, n2, us, r2, d2⟩ := dk_rd I.hok ho
  have hsz : vs.length + us.length ≤ sizeLine := by rw [← r1.length, ← r2.length, sizeLine_eq]; omega
  refine mergeMapping_pairs (knd := mixKind X.prog X.w) (fun k v h a => mix_nref h a) hne n2 d1 d2 hsz fun h' dd' hs => h _ ?_
  have hz' : (mergeK kvs more).length ≤ sizeLine := by
    have h1 := length_mergeK more kvs
    rw [sizeLine_eq]; omega
  have he : ∃ q, h'.get? d = some q := let ⟨q, _, _, hq, _⟩ := dd'; ⟨q, hq⟩
  exact d_write I (by rw [hd]; exact True.intro) hs he (dk_new hz' n1 (r2.merge r1) dd')
def tDispM (te : TE) (trs : List (TE × TE)) : TE := fun σ H Q => ∀ p, H p = none → te σ (upd H p (.dK [])) fun x H1 => ∃ a kvs, x = .ref a ∧ Rd H1 a (.dK kvs) ∧ H1 p = some (.dK []) ∧ p ≠ a ∧ kvs.length ≤ 100 ∧
  ∀ q, (upd H1 p (.dK (mergeK [] kvs))) q = none → tPairs trs σ (upd (upd H1 p (.dK (mergeK [] kvs))) q (.dK [])) fun ps H2 => H2 q = some (.dK []) ∧ H2 p = some (.dK (mergeK [] kvs)) ∧ p ≠ q ∧
    ∃ more : List (Key × V), ps = more.map (fun kv => (kV kv.1, kv.2)) ∧ more.length ≤ 15 ∧ Q (.ref p) (upd (upd H2 q (.dK (mergeK [] more))) p (.dK (mergeK (mergeK [] kvs) (mergeK [] more))))
theorem pe_dispM (he : PE X e te) (h : PPs X pos keys values trs) (hall : keys.all (·.isSome) = true) (hl : keys.length = values.length) (h0 : keys ≠ []) (h15 : keys.length ≤ 15) : PE X (.Dict (none :: keys) (e :: values) pos) (tDispM te trs) := by
  refine ⟨fun pins s σ H Q I q => ?_⟩
  have hn := I.hok.fresh (Nat.le_refl s.heap.objs.size)
  have I1 := I.laid (a := s.heap.objs.size) (o := .dK []) (h' := s.heap.push { cls := .type "dict", data := .dict #[] }) (t' := s.toks) (fun _ _ q => Heap.get?_push_of_some _ q) (Nat.le_refl _) (dk_empty s.heap I.big)
  have hpn := pairTrees_length keys values X.env pos hall hl
  rw [arm_eval_Dict]
  refine wpAny_bind (wpAny_standAt ?_)
  show wpAny _ _ (dictDisplay ((none, _) :: (evalEachOpt keys X.env).zip ((evalEach values X.env).map fun v => do let x ← v; standAt pos; pure x))) _ _ _
  rw [zip_pairTrees keys values X.env pos hall hl]
  refine display_star (fun z => h0 (List.length_eq_zero_iff.mp (by rw [← hpn, z]; rfl))) (by rw [hpn]; omega) ?_
  refine wpAny_bind (thn (he.run pins _ σ _ _ I1 (q _ hn)) fun u s1 ⟨x, H1, I2, rx, a, kvs, ex, ea, ep, hne, hz, q1⟩ => wpAny_bind (wpAny_standAt (wpAny_pure ?_)))
  subst ex
  obtain rfl : u = Value.ref a := rx
  refine inv_merge I2 ep ea hne (by simp only [List.length_nil]; omega) fun s2 I3 => ?_
  have hnq := I3.hok.fresh (Nat.le_refl s2.heap.objs.size)
  have I4 := I3.laid (a := s2.heap.objs.size) (o := .dK []) (h' := s2.heap.push { cls := .type "dict", data := .dict #[] }) (t' := s2.toks) (fun _ _ q => Heap.get?_push_of_some _ q) (Nat.le_refl _) (dk_empty s2.heap I3.big)
  refine wpAny_subDict (knd := mixKind X.prog X.w) (by rw [hpn]; exact h15) (thn (h.run pins _ σ _ _ I4 (q1 _ hnq)) fun ws s3 ⟨ps, H2, I5, rel, eq, ep2, hpq, more, eps, lk, q2⟩ => ?_)
  subst eps
  obtain ⟨rs, c, rk⟩ := carries_of (P := X.prog) (w := X.w) rel
  obtain ⟨z, hd, vs0, r0, dd⟩ := dk_of I5.hok eq
  cases r0
  refine ⟨rs, c, dd, fun h' dd' hs => ?_⟩
  have hlm := length_mergeK more ([] : List (Key × V))
  have hlk := length_mergeK kvs ([] : List (Key × V))
  rw [List.length_nil] at hlm hlk
  have hz : (mergeK [] more).length ≤ sizeLine := by rw [sizeLine_eq]; omega
  have hex : ∃ q, h'.get? s2.heap.objs.size = some q := let ⟨q, _, _, hq, _⟩ := dd'; ⟨q, hq⟩
  have I6 := d_write (t' := s3.toks + ws.length) I5 (by rw [eq]; exact True.intro) hs hex (dk_new hz hd (rk.merge .nil) dd')
  refine inv_merge I6 (by rw [upd_ne hpq]; exact ep2) (.inl upd_same) hpq (by omega) fun s4 I7 => ⟨.ref _, _, I7, rfl, q2⟩
def tDispM2 (te te2 : TE) : TE := fun σ H Q => ∀ p, H p = none → te σ (upd H p (.dK [])) fun x H1 => ∃ a kvs, x = .ref a ∧ Rd H1 a (.dK kvs) ∧ H1 p = some (.dK []) ∧ p ≠ a ∧ kvs.length ≤ 100 ∧
  te2 σ (upd H1 p (.dK (mergeK [] kvs))) fun y H2 => ∃ b more, y = .ref b ∧ Rd H2 b (.dK more) ∧ H2 p = some (.dK (mergeK [] kvs)) ∧ p ≠ b ∧ more.length ≤ 100 ∧ Q (.ref p) (upd H2 p (.dK (mergeK (mergeK [] kvs) more)))
theorem pe_dispM2 (he : PE X e te) (he2 : PE X e2 te2) : PE X (.Dict [none, none] [e, e2] pos) (tDispM2 te te2) := by
  refine ⟨fun pins s σ H Q I q => ?_⟩
  have hn := I.hok.fresh (Nat.le_refl s.heap.objs.size)
  have I1 := I.laid (a := s.heap.objs.size) (o := .dK []) (h' := s.heap.push { cls := .type "dict", data := .dict #[] }) (t' := s.toks) (fun _ _ q => Heap.get?_push_of_some _ q) (Nat.le_refl _) (dk_empty s.heap I.big)
  rw [arm_eval_Dict]
  refine wpAny_bind (wpAny_standAt ?_)
  show wpAny _ _ (dictDisplay [(none, _), (none, _)]) _ _ _
  refine display_star2 ?_
  refine wpAny_bind (thn (he.run pins _ σ _ _ I1 (q _ hn)) fun u s1 ⟨x, H1, I2, rx, a, kvs, ex, ea, ep, hne, hz, q1⟩ => wpAny_bind (wpAny_standAt (wpAny_pure ?_)))
  subst ex
  obtain rfl : u = Value.ref a := rx
  refine inv_merge I2 ep ea hne (by simp only [List.length_nil]; omega) fun s2 I3 => ?_
  refine wpAny_bind (thn (he2.run pins _ σ _ _ I3 q1) fun u2 s3 ⟨y, H2, I4, ry, b, more, ey, eb, ep2, hne2, hz2, q2⟩ => wpAny_bind (wpAny_standAt (wpAny_pure ?_)))
  subst ey
  obtain rfl : u2 = Value.ref b := ry
  have hlk := length_mergeK kvs ([] : List (Key × V))
  rw [List.length_nil] at hlk
  exact inv_merge I4 ep2 eb hne2 (by omega) fun s4 I7 => ⟨.ref _, _, I7, rfl, q2⟩
end
end Ps

/-! d[k] = e as a target; keyword-only defaults behind the top; defs with **kw, called by keywords. -/
namespace Ps
open PySem PySem.Spec PyProof.Rows PySem.W L2 He
section
variable {X : Cx}
def rSetD : V → V → V → Hp → (Hp → Prop) → Prop := fun o i v H Q => ∃ a H', o = .ref a ∧ DPut H a i v H' ∧ Q H'
theorem set_dct (hu : X.A.units + 1 < cLine) : PSet X rSetD := by
  intro pins s σ H o i v ov iv u Q I ro ri rv h
  obtain ⟨a, H', rfl, g, q⟩ := h
  cases ro
  exact d_setItem hu I g ri rv fun s' I' => ⟨H', I', q⟩
end
/-! ### keyword-only defaults -/
def relVB : V → Value → Bool
  | .non, .none => true
  | .bl b, .bool c => b == c
  | .int i, .int j _ => decide (i = j)
  | .str x, .str y _ => decide (x = y)
  | _, _ => false
theorem relVB_ok {v : V} {u : Value} (h : relVB v u = true) : RelV v u := by
  unfold relVB at h
  split at h
  · exact rfl
  · rw [eq_of_beq h]; exact rfl
  · rename_i i j t
    have := of_decide_eq_true h
    subst this
    exact ⟨_, rfl⟩
  · rename_i x y t
    have := of_decide_eq_true h
    subst this
    exact ⟨_, rfl⟩
  · cases h
def kwdVB (K : Frag) (kV : Value) (kws : List (Str × V)) : Bool := match kV with
  | .ref D => kws.all fun q => (match nsIn K D q.1 with
    | some (some u) => relVB q.2 u
    | _ => false)
  | _ => false
def kwdB (K : Frag) (f : Addr) (kws : List (Str × V)) : Bool := match K.lookup f with
  | some ⟨_, _, .func fd, _⟩ => kwdVB K fd.kwdefaults kws
  | _ => false
theorem FunD.withKw {K : Frag} {x qual : Str} {params : Arguments} {body : List Stmt} {scope : Scope} {dvs : List V} {kws : List (Str × V)} {f : Addr} {fd : FuncData} (F : FunD K x qual params body scope dvs [] f fd) (c : kwdB K f kws = true) : FunD K x qual params body scope dvs kws f fd := by
  obtain ⟨⟨oc, od, dV, kV, doc, pm, an, cdv, ct, osl, e, lk, hcd, hD, _⟩, kp⟩ := F
  refine ⟨⟨oc, od, dV, kV, doc, pm, an, cdv, ct, osl, e, lk, hcd, hD, ?_⟩, kp⟩
  unfold kwdB at c
  rw [lk, e] at c
  have c : kwdVB K kV kws = true := c
  unfold kwdVB at c
  cases kV with
  | ref D =>
    refine .inr ⟨D, rfl, fun q hq => ?_⟩
    have := List.all_eq_true.mp c q hq
    split at this
    · rename_i u hu
      exact ⟨u, hu, relVB_ok this⟩
    · cases this
  | _ => cases c
/-! ### **kw -/
section
variable {prog : Program} {w : World} {A : Around} {E : Value → Shared → Prop} {s : Shared}
theorem nsSet_pairs {d : Addr} {kvs : List (Key × Value)} {name : Str} {v : Value} {Q : Unit → Shared → Prop} (hm : s.heap.DictOf (mixKind prog w) d kvs) (hnk : (Sum.inr name : Key) ∉ kvs.map (·.1))
    (hQ : ∀ h', h'.DictOf (mixKind prog w) d (kvs ++ [(Sum.inr name, v)]) → Heap.SameBut d s.heap h' → Q () { s with heap := h', toks := s.toks + 1 }) :
    wpAny (model prog w) A (nsSet d name v) Q E s := by
  obtain ⟨o, es, ep, ho, hc, hd, hk, hp, hnd⟩ := hm
  have hany : es.any (·.refKey) = false := by
    rw [Array.any_eq_false']
    intro e he
    obtain ⟨k', hk', _⟩ := hk e he
    rcases keyIs_shape hk' with ⟨i, t, _, h⟩ | ⟨x, t, _, h⟩ <;> simp [DictEntry.refKey, h]
  have hidx : es.findIdx? (·.key.isStr name) = none := by
    rw [Array.findIdx?_eq_none_iff]
    intro e he
    refine Bool.eq_false_iff.mpr fun hs => ?_
    obtain ⟨k', hk', _⟩ := hk e he
    rcases keyIs_shape hk' with ⟨i, t, _, h⟩ | ⟨x, t, hx, h⟩
    · rw [h] at hs
      cases hs
    · rw [h] at hs
      have hxn : x = name := by
        have : (x == name) = true := hs
        exact eq_of_beq this
      subst hxn
      obtain ⟨i, hi, hie⟩ := Array.mem_iff_getElem.mp he
      have hi' : i < kvs.length := by
        have := hp.length
        simp at this
        omega
      obtain ⟨hkey, _⟩ := hp.get? (i := i) (e := e) (k := kvs[i].1) (v := kvs[i].2) (by rw [Array.getElem?_toList, Array.getElem?_eq_getElem hi, hie]) (List.getElem?_eq_getElem hi')
      have e2 : k' = kvs[i].1 := (mixKind prog w).inj _ _ _ hk' hkey
      exact hnk (List.mem_map.mpr ⟨kvs[i], List.getElem_mem hi', by rw [← e2, hx]⟩)
  unfold nsSet strHash
  refine wpAny_bind (wpAny_bind (wpAny_askSetting (wpAny_pure ?_)))
  refine wpAny_bind (wpAny_mkText ?_)
  refine wpAny_bind (wpAny_loadPart (o := o) ho ?_)
  simp only [hd, aRefKeyMayBeTheName_eq, aRefKeyMayBeTheNameByArray, hany, Bool.and_false, Bool.false_eq_true, if_false]
  refine wpAny_updatePart ho (hQ _ ?_ (Heap.SameBut.update ..))
  have hkey : (mixKind prog w).is (Sum.inr name) (.str name s.toks) = true := by
    show Value.isStrOf name (.str name s.toks) = true
    simp [Value.isStrOf]
  have hput : Obj.putName name (hashStr w name) (.str name s.toks) v o = o.mapDictKeys fun es => es.push ⟨hashStr w name, .str name s.toks, v⟩ := by
    obtain ⟨c, dd, dt, sl⟩ := o
    subst hd
    simp only [Obj.putName_eq, Obj.putNameByArray, hidx]
    rfl
  refine ⟨_, _, ep + 1, ?_, ?_, Obj.data_mapDictKeys hd fun es => es.push ⟨hashStr w name, .str name s.toks, v⟩, ?_, ?_, ?_⟩
  · exact (Heap.get?_update_self _ ho (by show (Obj.putName name (hashStr w name) (.str name s.toks) v o).isFreed = false; rw [hput]; exact Obj.isFreed_of_dict (Obj.data_mapDictKeys hd _))).trans (congrArg some hput)
  · exact hc.mapDictKeys _
  · exact hk.push hkey _
  · have := hp.append hkey (hashStr w name) v
    obtain ⟨l⟩ := es
    simpa using this
  · rw [List.map_append, List.nodup_append]
    refine ⟨hnd, by simp, ?_⟩
    intro a ha b hb
    simp only [List.map_cons, List.map_nil, List.mem_singleton] at hb
    subst hb
    exact fun e => hnk (e ▸ ha)
/-- the keywords' pairs into the new dict -/
theorem kwAll_pairs {d : Addr} : ∀ (kw : List (Str × Value)) (kvs : List (Key × Value)) (s : Shared) {Q : PUnit → Shared → Prop}, s.heap.DictOf (mixKind prog w) d kvs → List.Nodup ((kvs ++ kw.map fun p : Str × Value => ((Sum.inr p.1 : Key), p.2)).map (fun p : Key × Value => p.1)) →
    (∀ h' t, h'.DictOf (mixKind prog w) d (kvs ++ kw.map fun p => (Sum.inr p.1, p.2)) → Heap.SameBut d s.heap h' → Q PUnit.unit { s with heap := h', toks := t }) →
    wpAny (model prog w) A (forIn kw PUnit.unit fun x _ => do nsSet d x.1 x.2; pure (ForInStep.yield PUnit.unit)) Q E s
  | [], kvs, s, Q, hm, _, hQ => by
    rw [List.forIn_nil]
    refine wpAny_pure ?_
    have := hQ s.heap s.toks (by simpa using hm) (Heap.SameBut.refl _ _)
    exact this
  | (k, v) :: r, kvs, s, Q, hm, hnd, hQ => by
    rw [List.forIn_cons]
    have e : kvs ++ ((k, v) :: r).map (fun p : Str × Value => ((Sum.inr p.1 : Key), p.2)) = (kvs ++ [(Sum.inr k, v)]) ++ r.map fun p => (Sum.inr p.1, p.2) := by simp
    rw [e] at hnd hQ
    have hk : (Sum.inr k : Key) ∉ kvs.map (·.1) := by
      rw [List.map_append, List.map_append, List.append_assoc, List.nodup_append] at hnd
      intro h
      exact hnd.2.2 _ h _ (by simp) rfl
    refine wpAny_bind (wpAny_bind (nsSet_pairs hm hk fun h' dd hs => wpAny_pure ?_))
    refine kwAll_pairs r (kvs ++ [(Sum.inr k, v)]) _ dd hnd fun h2 t2 dd2 hs2 => ?_
    exact hQ h2 t2 dd2 (hs.trans hs2)
end
/-- a def called by keywords ks behind one positional value -/
def FnKw (P : Program) (w : World) (K : Frag) (mg : Str → Option Value) (base : Heap) (CX : CXT) (k : Nat) (f : Addr) (ks : List Str) (sp : V → List V → Hp → VK → XK → Prop) : Prop :=
  ∀ (A : Around) (outer : List Env) (s : Shared) (H : Hp) (u : Value) (ws : List Value) (v : V) (zs : List V) (Q : VK) (E : XK), Room k A → Env0 P w K mg base A outer s H → RelV v u → Vals zs ws → ws.length = ks.length → sp v zs H Q E →
    codeAny (model P w) A (.call (.ref f) ⟨[u], ks.zip ws⟩) (CR CX outer P w H s Q E) s
def kwK (ks : List Str) (zs : List V) : List (Key × V) := (ks.zip zs).map fun p => (Sum.inr p.1, p.2)
theorem kw_rel : ∀ {ks : List Str} {zs : List V} {ws : List Value}, Vals zs ws → KV (kwK ks zs) ((ks.zip ws).map fun p => ((Sum.inr p.1 : Key), p.2))
  | [], _, _, _ => by unfold kwK; simp; exact .nil
  | _ :: _, _, _, .nil => by unfold kwK; simp; exact .nil
  | k :: ks, _, _, .cons r rs => .cons ⟨rfl, r⟩ (kw_rel rs)
section
variable {CX : CXT} {P : Program} {w : World} {K : Frag} {mg : Str → Option Value} {base : Heap} {k : Nat} {f : Addr} {name qual : Str} {params : Arguments} {body : List Stmt} {scope : Scope} {dV kV doc pm cdv ct oc : Value} {an od : Option Addr}
  {osl : Array (Option Value)} {N ks : List Str} {p1 pd : Str} {sp : Sp}
/-- def f(a, **d) -/
theorem fn_kw (lk : K.lookup f = some ⟨oc, od, .func (PySem.W.fnOf name qual params body scope dV kV doc pm an cdv ct), osl⟩) (hcd : PySem.W.codeIn K cdv qual = true) (S : FnScope N [p1, pd] scope) (hCX : StX.CXUp CX) (hnd : ks.Nodup)
    (hb : ∀ (u : Value) (ws : List Value), ws.length = ks.length → bindArgs (PySem.W.fnOf name qual params body scope dV kV doc pm an cdv ct) ⟨[u], ks.zip ws⟩ =
      ((alloc ({ cls := .type "dict", data := .dict #[] } : Obj) : Sem Addr) >>= fun d => (forIn (ks.zip ws) PUnit.unit fun x _ => do nsSet d x.1 x.2; pure (ForInStep.yield PUnit.unit)) >>= fun _ => pure [(p1, u), (pd, Value.ref d)]))
    (hbody : ∀ (A : Around) (outer : List Env) (s : Shared) (H : Hp) (vs : List V) (Q : VK) (E : XK), Room k (A.deeper (envOfC qual scope s.heap.objs.size f cdv)) → sp vs H Q E →
      ∃ t, PSs (cxOf CX P w K mg base N qual scope f cdv A outer s H E) body t ∧ t { nx := fun _ H' => Q .non H', rt := Q } (start N vs) H) :
    FnKw P w K mg base CX (k + 1) f ks (fun v zs H Q E => ks.length ≤ 100 ∧ ∀ d, H d = none → sp [v, .ref d] (upd H d (.dK (kwK ks zs))) Q E) := by
  intro A outer s H u ws v zs Q E hr e0 rv r hl hsp
  obtain ⟨h100, hq⟩ := hsp
  have hn : H s.heap.objs.size = Option.none := e0.hok.fresh (Nat.le_refl _)
  refine StX.run_bnd lk hcd S hr e0 (G := fun xs H2 => ∃ d, H d = Option.none ∧ xs = [v, V.ref d] ∧ H2 = upd H d (.dK (kwK ks zs))) (fun A' Ex Q' h => ?_) fun s2 H2 xs ⟨d, hd, ex, eH⟩ hr' => ?_
  · rw [hb u ws hl]
    refine wpAny_bind (wpAny_alloc ?_)
    have hmap : ((ks.zip ws).map fun p => ((Sum.inr p.1 : Key), p.2)).map (·.1) = ks.map Sum.inr := by
      rw [List.map_map]
      have : ((fun x : Key × Value => x.1) ∘ fun p : Str × Value => ((Sum.inr p.1 : Key), p.2)) = (Sum.inr ∘ Prod.fst) := rfl
      rw [this, ← List.map_map, List.map_fst_zip (by omega)]
    have hnd' : (([] : List (Key × Value)) ++ (ks.zip ws).map fun p => ((Sum.inr p.1 : Key), p.2)).map (·.1) |>.Nodup := by
      rw [List.nil_append, hmap]
      exact List.Pairwise.map _ (fun a b hab he => hab (Sum.inr.inj he)) hnd
    refine wpAny_bind (kwAll_pairs (ks.zip ws) [] _ (Heap.DictOf.new s.heap) hnd' fun h' t dd hs => wpAny_pure ?_)
    rw [List.nil_append] at dd
    have kp : ∀ b x, s.heap.get? b = some x → h'.get? b = some x := fun b x e => (hs.2 b (Nat.ne_of_lt (Heap.lt_size e))).trans (Heap.get?_push_of_some _ e)
    have hz : (kwK ks zs).length ≤ sizeLine := by
      unfold kwK
      rw [List.length_map, List.length_zip]
      exact Nat.le_trans (Nat.min_le_left _ _) (Nat.le_trans h100 (by decide))
    have hsm : (s.heap.objs.size == sysModules) = false := beq_eq_false_iff_ne.mpr (Ne.symm (Nat.ne_of_lt (StX.env0_big e0)))
    have new : ObjOk P w (upd H s.heap.objs.size (.dK (kwK ks zs))) h' s.heap.objs.size (.dK (kwK ks zs)) := dk_new hz hsm (kw_rel r) dd
    have un : Un (frs outer) [] H (upd H s.heap.objs.size (.dK (kwK ks zs))) s.heap h' := Un.laid kp (Nat.le_refl _) hn
    have e2 : Env0 P w K mg base A outer { s with heap := h', toks := t } (upd H s.heap.objs.size (.dK (kwK ks zs))) := by
      refine ⟨e0.frames, e0.mod, fun b x e => ⟨kp b x (e0.bs b x e).1, ?_⟩, ?_, Heap.FunFrames.of_keeps (fun b x e _ => ⟨x, kp b x e, rfl⟩) e0.funs, fun b hb => ?_, e0.hok.laid kp (Nat.le_refl _) new, e0.bare⟩
      · rw [upd_ne (Nat.ne_of_lt (Heap.lt_size (e0.bs b x e).1))]
        exact (e0.bs b x e).2
      · show base.objs.size ≤ h'.objs.size
        obtain ⟨q, _, _, hq, _⟩ := dd
        exact Nat.le_trans e0.bsz (Nat.le_of_lt (Heap.lt_size hq))
      · obtain ⟨_, x, hx, _⟩ := e0.funs.mem hb
        rw [upd_ne (Nat.ne_of_lt (Heap.lt_size hx))]
        exact e0.frf b hb
    exact h _ _ [v, V.ref s.heap.objs.size] [u, Value.ref s.heap.objs.size] e2 un rfl (fun e s' => hCX outer s H _ _ E e s' un kp rfl) (.cons rv (.cons rfl .nil)) rfl ⟨_, hn, rfl, rfl⟩
  · subst ex eH
    exact hbody A outer s2 _ _ Q E hr' (hq d hd)
end
/-- a method by keywords alone -/
def CalK (Z : Cz) (CX : CXT) (k : Nat) (C : Addr) (m : Str) (ks : List Str) (sp : V → List V → Hp → VK → XK → Prop) : Prop := ∃ f, FnKw Z.P Z.w Z.K Z.mg Z.base CX k f ks sp ∧ Meth Z.K C m f ∧ Cls Z.K C
section
variable {Z : Cz} {X : Cx} {CX : CXT} {k : Nat} {C : Addr} {ks : List Str} {sp : V → List V → Hp → VK → XK → Prop} {E : XK} {m : Str} {pos apos : Pos} {o : Expr} {ta : TE} {kws : List Keyword} {tk : TA}
def tMethK (C : Addr) (m : Str) (n : Nat) (sp : V → List V → Hp → VK → XK → Prop) (E : XK) (ta : TE) (tk : TA) : TE := fun σ H Q => ta σ H fun x H1 => ∃ a dx fs, x = .ref a ∧ H1 a = some (.ins C dx fs) ∧ fs.lookup m = none ∧ tk σ H1 fun zs H2 => zs.length = n ∧ sp x zs H2 Q E
theorem pe_calK {pl : Sem Bool} (c : CalK Z CX k C m ks sp) (hr : Room k X.A) (hx : Passes CX X E) (he : PE X o ta) (hkw : PK X kws tk) (z : InZ Z X := by exact ⟨rfl, rfl, rfl, rfl, rfl⟩)
    (hall : (backToKw pos (keywordEach kws X.env)).all (·.1.isSome) = true := by rfl) (hks : (backToKw pos (keywordEach kws X.env)).filterMap (·.1) = ks := by rfl)
    (hpl : ((backTo pos (starEach [] X.env)).any (·.1) || (backToKw pos (keywordEach kws X.env)).any (·.1.isNone)) = false := by rfl)
    (ht : eval (.Call (.Attribute o m apos) [] kws pos) X.env = (do
      let ov ← eval o X.env
      standAt apos.atName
      let (f, first) ← holding [ov] (getMethod ov m pl)
      callWith pos f first (backTo pos (starEach [] X.env)) (backToKw pos (keywordEach kws X.env))) := by rfl) :
    PE X (.Call (.Attribute o m apos) [] kws pos) (tMethK C m ks.length sp E ta tk) := by
  obtain ⟨f, G, hm, cl⟩ := c
  obtain ⟨e1, e2, e3, e4, e5⟩ := z
  rw [← e1, ← e2, ← e3, ← e4, ← e5] at G
  rw [← e3] at hm cl
  refine ⟨fun pins s σ H Q I h => ?_⟩
  refine PySem.W.methodCall_KW (pl := pl) (thn (he.run pins s σ H _ I h) fun u s1 ⟨x, H1, I1, rx, a, dx, fs, ex, ea, l, q⟩ => ?_) ht
  subst ex
  obtain rfl : u = Value.ref a := rx
  refine getmeth_ok I1 ea cl hm l ?_
  refine PySem.W.callWith_KW0 (first := [.ref a]) (h₀ := X.base) I.ok.mod.kin hm.kp hall ?_ hpl
  refine thn (hkw.run pos pins s1 σ H1 _ I1 q) fun ws s2 ⟨zs, H2, I2, rz, hl, q2⟩ => ⟨I2.kIn, ?_⟩
  rw [hks]
  refine wpAny_call (codeAny_mono (G X.A X.stack s2 H2 (.ref a) ws (.ref a) zs Q E hr I2.env0 rfl rz (rz.length.symm.trans hl) q2) fun r s' hq => ?_)
  cases r with
  | error e => exact hx pins σ H2 s2 e s' I2 hq
  | ok fl =>
    cases fl with
    | ret u => exact I2.after hq
    | next => exact False.elim hq
    | brk => exact False.elim hq
    | cont => exact False.elim hq
end
end Ps

/-! Books: the tests of settings, settings as kept. -/
namespace Ps
open PySem PySem.Spec PyProof.Rows PySem.W L2

/-- lowest terms -/
structure Lw (q : Int × Int) : Prop where
  pos : 0 < q.2
  low : low q.1 q.2 = q
theorem Lw.of {t u : Int} (hu : u ≠ 0) : Lw (Ps.low t u) := ⟨low_pos hu, low_low hu⟩
theorem Lw.int (i : Int) : Lw (i, 1) := ⟨by show (0 : Int) < 1; decide, low_one i⟩
theorem gAdd_zero {q : Int × Int} (h : Lw q) : gAdd (Ps.low 0 1) q = q := by
  rw [low_one]
  unfold gAdd
  have : Ps.low (0 * q.2 + q.1 * 1) (1 * q.2) = Ps.low q.1 q.2 := by congr 1 <;> omega
  exact this.trans h.low
theorem gMin_eq {q r : Int × Int} (hq : Lw q) (hr : Lw r) : gMin q r = 0 ↔ q = r := by
  constructor
  · intro h
    unfold gMin at h
    have e : q.1 * r.2 = r.1 * q.2 := by omega
    have hq0 := hq.pos
    have hr0 := hr.pos
    have e1 : low (r.2 * q.1) (r.2 * q.2) = low q.1 q.2 := low_scale _ _ _ (by omega) (by omega)
    have e2 : low (q.2 * r.1) (q.2 * r.2) = low r.1 r.2 := low_scale _ _ _ (by omega) (by omega)
    have e3 : r.2 * q.1 = q.2 * r.1 := by rw [Int.mul_comm, e, Int.mul_comm]
    have e4 : r.2 * q.2 = q.2 * r.2 := Int.mul_comm ..
    rw [e3, e4, e2] at e1
    rw [← hq.low, ← hr.low, ← e1]
  · rintro rfl
    unfold gMin
    omega
def NotI (K : Frag) (H : Hp) (v : V) : Prop := ∃ t, TyX K H v t ∧ (t = .type "bool" ∨ kitOne K t (.type "int") = some false)
/-- a number above 0, or not -/
def AbB (K : Frag) (C : Addr) (H : Hp) (v : V) (b : Bool) : Prop := (∃ q, Nb C H v q ∧ Sz 100 q ∧ b = decide (0 < q.1)) ∨ (NotNum K C H v ∧ b = false)
inductive AfB (K : Frag) (C : Addr) (H : Hp) : V → Bool → Prop
  | str (z : Str) : AfB K C H (.str z) (decide (z = "ever"))
  | odd {v : V} {t : Value} (ty : TyX K H v t) (k1 : kitOne K t (.type "str") = some false) (k2 : kitOne K t (.type "tuple") = some false) : AfB K C H v false
  | len {a : Addr} {xs : List V} (h : H a = some (.tup xs)) (hl : xs.length ≠ 2) : AfB K C H (.ref a) false
  | first {a : Addr} {x y : V} {t : Value} (h : H a = some (.tup [x, y])) (ty : TyX K H x t) (k : kitOne K t (.type "str") = some false) : AfB K C H (.ref a) false
  | doubt {a : Addr} {w : V} {b : Bool} (h : H a = some (.tup [.str "doubt", w])) (hw : AbB K C H w b) : AfB K C H (.ref a) b
  | look {a : Addr} {i : Int} (h : H a = some (.tup [.str "look", .int i])) : AfB K C H (.ref a) (decide (1 ≤ i) && decide (i ≤ 9))
  | lookN {a : Addr} {w : V} (h : H a = some (.tup [.str "look", w])) (hw : NotI K H w) : AfB K C H (.ref a) false
/-- a setting that is right, or not -/
inductive StB (K : Frag) (C : Addr) (H : Hp) : Str → V → Bool → Prop
  | triesN : StB K C H "tries" .non true
  | triesI (i : Int) : StB K C H "tries" (.int i) (decide (0 ≤ i) && decide (i ≤ 6))
  | triesX {v : V} (h : NotI K H v) (hn : v ≠ .non) : StB K C H "tries" v false
  | told {v : V} {b : Bool} (h : AbB K C H v b) : StB K C H "told" v b
  | factor {v : V} {q : Int × Int} (h : Nb C H v q) (hz : Sz 100 q) : StB K C H "factor" v (decide (0 ≤ q.1))
  | factorN {v : V} (h : NotNum K C H v) : StB K C H "factor" v false
  | after {v : V} {b : Bool} (h : AfB K C H v b) : StB K C H "after" v b
  | flag {x : Str} (hx : x ∈ (["equal", "sliding", "keep"] : List Str)) (c : Bool) : StB K C H x (.bl c) true
  | flagN {x : Str} (hx : x ∈ (["equal", "sliding", "keep"] : List Str)) {v : V} {t : Value} (ty : TyX K H v t) (k : kitOne K t (.type "bool") = some false) : StB K C H x v false
/-- names at the top -/
structure BkT (Z : Cz) : Prop where
  str : Z.mg "str" = none
  tuple : Z.mg "tuple" = none
  len : Z.mg "len" = none
  all : Z.mg "all" = none
  ever : ∃ t, Z.mg "EVER" = some (.str "ever" t)
  most : ∃ t, Z.mg "MOST_TRIES" = some (.int 6 t)
  look : ∃ t, Z.mg "MOST_LOOK" = some (.int 9 t)
  fields : ∃ a, Z.mg "FIELDS" = some (.ref a) ∧ ∀ H, SqT Z.K H a [.str "tries", .str "told", .str "factor", .str "equal", .str "sliding", .str "after", .str "keep"]
/-- the shares' own methods -/
structure ShM (Z : Cz) (C : Addr) : Prop where
  gt : CalS Z CX0 6 C "__gt__" ["self", "other"] (spOrd C fun i => decide (0 < i))
  ge : CalS Z CX0 6 C "__ge__" ["self", "other"] (spOrd C fun i => decide (0 ≤ i))
  eq : CalS Z CX0 6 C "__eq__" ["self", "other"] (spShEq Z.K C)
  add : CAdd Z C
  na : NumF Z.K C "add"
  new : CShare Z C
  new1 : CShare1 Z C
  isnum : Cal Z CX0 2 "is_number" ["value"] [] (spIsNum Z.K C)
  isint : Cal Z CX0 1 "is_integer" ["value"] [] (spIsInt Z.K)
def spAbove (K : Frag) (C : Addr) : Sp := fun vs H Q _ => ∃ v b, vs = [v] ∧ AbB K C H v b ∧ ∀ H', Same H H' → Q (.bl b) H'
def spAfter (K : Frag) (C : Addr) : Sp := fun vs H Q _ => ∃ v b, vs = [v] ∧ AfB K C H v b ∧ ∀ H', Same H H' → Q (.bl b) H'
def spSetting (K : Frag) (C : Addr) : Sp := fun vs H Q _ => ∃ x v b, vs = [.str x, v] ∧ StB K C H x v b ∧ ∀ H', Same H H' → Q (.bl b) H'
theorem min_zero (q : Int × Int) : gMin q (0, 1) = q.1 := by unfold gMin; omega
theorem sz_zero : Sz 4000 (0, 1) := ⟨by decide, by decide, by decide⟩
section
variable {Z : Cz} {f C : Addr} {fd : FuncData}
theorem ok_is_above (F : Fun Z.K "is_above" "is_above" s_is_above f fd) (T : ShT Z C) (M : ShM Z C) : Z.ok CX0 7 f fd ["value"] (spAbove Z.K C) := by
  refine F.ok sc_is_above (fun vs H Q E h => ?_) (fun cdv A outer s H vs Q E hr h => ?_)
  · obtain ⟨v, b, rfl, _⟩ := h
    rfl
  · obtain ⟨v, b, rfl, h, k⟩ := h
    refine ⟨_, (pss_one (ps_ret (pe_and (pe_cal M.isnum (hr.mono (by decide)) (by rfl) pass0 (pa_cons (pv 0) pa_nil)) (pe_one (pe_cmpR (op_both (op_cmp (op := .Gt) M.gt hr pass0) op_gt) (pv 0) pe_int (nomark _)))))), ?_⟩
    rcases h with ⟨q, hq, hz, rfl⟩ | ⟨hn, rfl⟩
    · refine ⟨_, rfl, v, rfl, .inl ⟨⟨q, hq⟩, _, rfl, iteT ?_⟩⟩
      rcases id hq with hs | ⟨i, rfl, rfl⟩
      · refine ⟨_, rfl, .inl ⟨hs.ins, Nb.nf T (.inr ⟨0, rfl, rfl⟩), v, _, q, (0, 1), rfl, hs, .inr ⟨0, rfl, rfl⟩, hz.up (by decide), sz_zero, fun H' e => ?_⟩⟩
        rw [min_zero]
        exact k H' e
      · exact ⟨_, rfl, .inr ⟨_, _, rfl, rfl, k H (Same.refl _)⟩⟩
    · exact ⟨_, rfl, v, rfl, .inr ⟨hn, _, rfl, iteF (k H (Same.refl _))⟩⟩
abbrev CAbove (Z : Cz) (C : Addr) : Prop := Cal Z CX0 7 "is_above" ["value"] [] (spAbove Z.K C)
theorem ok_is_after (F : Fun Z.K "is_after" "is_after" s_is_after f fd) (T : ShT Z C) (B : BkT Z) (M : ShM Z C) (c_is_above : CAbove Z C) : Z.ok CX0 8 f fd ["value"] (spAfter Z.K C) := by
  refine F.ok sc_is_after (fun vs H Q E h => ?_) (fun cdv A outer s H vs Q E hr h => ?_)
  · obtain ⟨v, b, rfl, _⟩ := h
    rfl
  · obtain ⟨v, b, rfl, h, k⟩ := h
    obtain ⟨te, ge⟩ := B.ever
    obtain ⟨tl, gl⟩ := B.look
    refine ⟨_, (pss_cons (ps_if (pt_val (pe_callB call_isi (by rfl) T.isi (by decide +kernel) (pa_cons (pv 0) (pa_cons (pe_ty "str" (by rfl) B.str (by decide +kernel)) pa_nil))))
      (pss_one (ps_ret (pe_cmpR op_eq (pv 0) (pe_glob (v := .str "ever") rfl ge ⟨_, rfl⟩) (nomark _))))
      pss_nil)
      (pss_cons (ps_if (PW.pt (pw_or (pt_not (pt_val (pe_callB call_isi (by rfl) T.isi (by decide +kernel) (pa_cons (pv 0) (pa_cons (pe_ty "tuple" (by rfl) B.tuple (by decide +kernel)) pa_nil))))) (pw_or (pt_cmpR op_ne (pe_callB call_len_seq (by rfl) B.len PySem.boot_len (pa_cons (pv 0) pa_nil)) pe_int (nomark _)) (pw_or1 (pt_not (pt_val (pe_callB call_isi (by rfl) T.isi (by decide +kernel) (pa_cons (pe_ix ix_tup (pv 0) pe_int (fun _ _ => rfl)) (pa_cons (pe_ty "str" (by rfl) B.str (by decide +kernel)) pa_nil)))))))))
      (pss_one (ps_ret pe_bl))
      pss_nil)
      (pss_cons (ps_if (pt_cmpR op_eq (pe_ix ix_tup (pv 0) pe_int (fun _ _ => rfl)) pe_str (nomark _))
      (pss_one (ps_ret (pe_cal c_is_above (hr.mono (by decide)) (by rfl) pass0 (pa_cons (pe_ix ix_tup (pv 0) pe_int (fun _ _ => rfl)) pa_nil))))
      pss_nil)
      (pss_one (ps_ret (pe_and (pe_cmpR op_eq (pe_ix ix_tup (pv 0) pe_int (fun _ _ => rfl)) pe_str (nomark _)) (pe_and (pe_cal M.isint (hr.mono (by decide)) (by rfl) pass0 (pa_cons (pe_ix ix_tup (pv 0) pe_int (fun _ _ => rfl)) pa_nil)) (pe_one (pe_chain op_le op_le pe_int (pe_ix ix_tup (pv 0) pe_int (fun _ _ => rfl)) (pe_glob (v := .int 9) rfl gl ⟨_, rfl⟩)))))))))), ?_⟩
    have k0 := k H (Same.refl _)
    have two : ∀ {a : Addr} {z : Str} {w : V}, H a = some (.tup [.str z, w]) → ∀ {P : Prop}, P → True := fun _ _ _ => trivial
    cases h with
    | str z =>
      refine ⟨_, rfl, _, _, _, _, true, rfl, .ty "str", .base (.str _), kit_ty (by decide +kernel), _, rfl, iteT ?_⟩
      refine ⟨_, rfl, rfl, ?_⟩
      rw [show decide (V.str z = V.str "ever") = decide (z = "ever") from decide_eq_decide.mpr ⟨V.str.inj, fun z => by rw [z]⟩]
      exact k0
    | odd ty k1 k2 =>
      refine ⟨_, rfl, _, _, _, _, false, rfl, .ty "str", ty, k1, _, rfl, iteF ?_⟩
      exact ⟨_, rfl, _, _, _, _, false, rfl, .ty "tuple", ty, k2, _, rfl, iteT k0⟩
    | @len a xs h hl =>
      refine ⟨_, rfl, _, _, _, _, false, rfl, .ty "str", .base (.tup h), kit_ty (by decide +kernel), _, rfl, iteF ?_⟩
      refine ⟨_, rfl, _, _, _, _, true, rfl, .ty "tuple", .base (.tup h), kit_ty (by decide +kernel), _, rfl, iteF ?_⟩
      refine ⟨_, rfl, a, _, rfl, .inr (SqT.of h), rfl, _, rfl, ?_⟩
      rw [decide_eq_false (show ¬ V.int ((xs.length : Nat) : Int) = V.int 2 from fun z => hl (by have := V.int.inj z; omega))]
      exact iteT k0
    | @first a x y t h ty k1 =>
      refine ⟨_, rfl, _, _, _, _, false, rfl, .ty "str", .base (.tup h), kit_ty (by decide +kernel), _, rfl, iteF ?_⟩
      refine ⟨_, rfl, _, _, _, _, true, rfl, .ty "tuple", .base (.tup h), kit_ty (by decide +kernel), _, rfl, iteF ?_⟩
      refine ⟨_, rfl, a, _, rfl, .inr (SqT.of h), rfl, _, rfl, iteNS rfl ?_⟩
      exact ⟨_, rfl, a, _, _, _, rfl, rfl, SqT.of h, rfl, _, _, _, _, false, rfl, .ty "str", ty, k1, _, rfl, iteT k0⟩
    | @doubt a w b h hw =>
      refine ⟨_, rfl, _, _, _, _, false, rfl, .ty "str", .base (.tup h), kit_ty (by decide +kernel), _, rfl, iteF ?_⟩
      refine ⟨_, rfl, _, _, _, _, true, rfl, .ty "tuple", .base (.tup h), kit_ty (by decide +kernel), _, rfl, iteF ?_⟩
      refine ⟨_, rfl, a, _, rfl, .inr (SqT.of h), rfl, _, rfl, iteNS rfl ?_⟩
      refine ⟨_, rfl, a, _, _, _, rfl, rfl, SqT.of h, rfl, _, _, _, _, true, rfl, .ty "str", .base (.str _), kit_ty (by decide +kernel), _, rfl, iteF ?_⟩
      refine ⟨_, rfl, a, _, _, _, rfl, rfl, SqT.of h, rfl, rfl, _, rfl, iteT ?_⟩
      exact ⟨_, rfl, a, _, _, _, rfl, rfl, SqT.of h, rfl, w, _, rfl, hw, k⟩
    | @look a i h =>
      refine ⟨_, rfl, _, _, _, _, false, rfl, .ty "str", .base (.tup h), kit_ty (by decide +kernel), _, rfl, iteF ?_⟩
      refine ⟨_, rfl, _, _, _, _, true, rfl, .ty "tuple", .base (.tup h), kit_ty (by decide +kernel), _, rfl, iteF ?_⟩
      refine ⟨_, rfl, a, _, rfl, .inr (SqT.of h), rfl, _, rfl, iteNS rfl ?_⟩
      refine ⟨_, rfl, a, _, _, _, rfl, rfl, SqT.of h, rfl, _, _, _, _, true, rfl, .ty "str", .base (.str _), kit_ty (by decide +kernel), _, rfl, iteF ?_⟩
      refine ⟨_, rfl, a, _, _, _, rfl, rfl, SqT.of h, rfl, rfl, _, rfl, iteF ?_⟩
      refine ⟨_, rfl, a, _, _, _, rfl, rfl, SqT.of h, rfl, rfl, _, rfl, iteT ?_⟩
      refine ⟨_, rfl, a, _, _, _, rfl, rfl, SqT.of h, rfl, _, _, rfl, .base (.int _), .inl ⟨rfl, _, rfl, iteT ?_⟩⟩
      refine ⟨_, rfl, a, _, _, _, rfl, rfl, SqT.of h, rfl, _, _, rfl, rfl, _, rfl, ?_⟩
      refine iteD (fun h1 => ?_) (fun h1 => ?_)
      · rw [decide_eq_true h1, Bool.true_and] at k0
        exact ⟨_, _, rfl, rfl, k0⟩
      · rw [decide_eq_false h1, Bool.false_and] at k0
        exact k0
    | @lookN a w h hw =>
      refine ⟨_, rfl, _, _, _, _, false, rfl, .ty "str", .base (.tup h), kit_ty (by decide +kernel), _, rfl, iteF ?_⟩
      refine ⟨_, rfl, _, _, _, _, true, rfl, .ty "tuple", .base (.tup h), kit_ty (by decide +kernel), _, rfl, iteF ?_⟩
      refine ⟨_, rfl, a, _, rfl, .inr (SqT.of h), rfl, _, rfl, iteNS rfl ?_⟩
      refine ⟨_, rfl, a, _, _, _, rfl, rfl, SqT.of h, rfl, _, _, _, _, true, rfl, .ty "str", .base (.str _), kit_ty (by decide +kernel), _, rfl, iteF ?_⟩
      refine ⟨_, rfl, a, _, _, _, rfl, rfl, SqT.of h, rfl, rfl, _, rfl, iteF ?_⟩
      refine ⟨_, rfl, a, _, _, _, rfl, rfl, SqT.of h, rfl, rfl, _, rfl, iteT ?_⟩
      obtain ⟨t, ty, hk⟩ := hw
      refine ⟨_, rfl, a, _, _, _, rfl, rfl, SqT.of h, rfl, w, t, rfl, ty, ?_⟩
      rcases hk with rfl | hk
      · exact .inr (.inl ⟨rfl, _, rfl, iteF k0⟩)
      · exact .inr (.inr ⟨hk, _, rfl, iteF k0⟩)
end
end Ps

/-! Books: settings, as kept; a book is made. -/
namespace Ps
open PySem PySem.Spec PyProof.Rows PySem.W L2

inductive Af where
  | ever
  | doubt (q : Int × Int)
  | look (i : Int)
  deriving DecidableEq
structure Bk where
  tries : Option Int
  told : Int × Int
  factor : Int × Int
  equal : Bool
  sliding : Bool
  after : Af
  keep : Bool
  deriving DecidableEq
def trV : Option Int → V
  | none => .non
  | some i => .int i
def AfV (C : Addr) (H : Hp) (v : V) : Af → Prop
  | .ever => v = .str "ever"
  | .doubt q => ∃ a w, v = .ref a ∧ H a = some (.tup [.str "doubt", w]) ∧ Sh C H w q
  | .look i => ∃ a, v = .ref a ∧ H a = some (.tup [.str "look", .int i])
def AfA (C : Addr) (H : Hp) (v : V) : Af → Prop
  | .ever => v = .str "ever"
  | .doubt q => ∃ a w, v = .ref a ∧ H a = some (.tup [.str "doubt", w]) ∧ Nb C H w q
  | .look i => ∃ a, v = .ref a ∧ H a = some (.tup [.str "look", .int i])
theorem AfV.toA {C : Addr} {H : Hp} {v : V} {af : Af} (h : AfV C H v af) : AfA C H v af := by
  cases af with
  | ever => exact h
  | doubt q => obtain ⟨a, w, h1, h2, h3⟩ := h; exact ⟨a, w, h1, h2, .inl h3⟩
  | look i => exact h
theorem AfV.mono {C : Addr} {H H' : Hp} {v : V} {af : Af} (e : Same H H') (h : AfV C H v af) : AfV C H' v af := by
  cases af with
  | ever => exact h
  | doubt q => obtain ⟨a, w, h1, h2, h3⟩ := h; exact ⟨a, w, h1, e _ _ h2, h3.mono e⟩
  | look i => obtain ⟨a, h1, h2⟩ := h; exact ⟨a, h1, e _ _ h2⟩
theorem AfA.mono {C : Addr} {H H' : Hp} {v : V} {af : Af} (e : Same H H') (h : AfA C H v af) : AfA C H' v af := by
  cases af with
  | ever => exact h
  | doubt q => obtain ⟨a, w, h1, h2, h3⟩ := h; exact ⟨a, w, h1, e _ _ h2, h3.mono e⟩
  | look i => obtain ⟨a, h1, h2⟩ := h; exact ⟨a, h1, e _ _ h2⟩
def AfOk : Af → Prop
  | .ever => True
  | .doubt q => Lw q ∧ Sz 100 q ∧ 0 < q.1
  | .look i => 1 ≤ i ∧ i ≤ 9
structure BkOk (b : Bk) : Prop where
  tr : ∀ i, b.tries = some i → 0 ≤ i ∧ i ≤ 6
  tl : Lw b.told
  tz : Sz 100 b.told
  tp : 0 < b.told.1
  fl : Lw b.factor
  fz : Sz 100 b.factor
  fp : 0 ≤ b.factor.1
  af : AfOk b.after
/-- the seven settings -/
def stL (t o f e s a k : V) : List (Key × V) := [(.inr "tries", t), (.inr "told", o), (.inr "factor", f), (.inr "equal", e), (.inr "sliding", s), (.inr "after", a), (.inr "keep", k)]
def stF : List Str := ["tries", "told", "factor", "equal", "sliding", "after", "keep"]
theorem st_tries (t o f e s a k : V) : valV (stL t o f e s a k) (.inr "tries") = some t := rfl
theorem st_told (t o f e s a k : V) : valV (stL t o f e s a k) (.inr "told") = some o := rfl
theorem st_factor (t o f e s a k : V) : valV (stL t o f e s a k) (.inr "factor") = some f := rfl
theorem st_equal (t o f e s a k : V) : valV (stL t o f e s a k) (.inr "equal") = some e := rfl
theorem st_sliding (t o f e s a k : V) : valV (stL t o f e s a k) (.inr "sliding") = some s := rfl
theorem st_after (t o f e s a k : V) : valV (stL t o f e s a k) (.inr "after") = some a := rfl
theorem st_keep (t o f e s a k : V) : valV (stL t o f e s a k) (.inr "keep") = some k := rfl
def Sts (C : Addr) (H : Hp) (d : Addr) (b : Bk) : Prop := ∃ vo vf va, H d = some (.dK (stL (trV b.tries) vo vf (.bl b.equal) (.bl b.sliding) va (.bl b.keep))) ∧ Sh C H vo b.told ∧ Sh C H vf b.factor ∧ AfV C H va b.after
theorem Sts.mono {C d : Addr} {H H' : Hp} {b : Bk} (e : Same H H') (h : Sts C H d b) : Sts C H' d b := by
  obtain ⟨vo, vf, va, h1, h2, h3, h4⟩ := h
  exact ⟨vo, vf, va, e _ _ h1, h2.mono e, h3.mono e, h4.mono e⟩
/-- v is the book b -/
def BkAt (C CB : Addr) (H : Hp) (v : V) (b : Bk) : Prop := ∃ a dx d, v = .ref a ∧ H a = some (.ins CB dx [("settings", .ref d)]) ∧ Sts C H d b ∧ BkOk b
theorem BkAt.mono {C CB : Addr} {H H' : Hp} {v : V} {b : Bk} (e : Same H H') (h : BkAt C CB H v b) : BkAt C CB H' v b := by
  obtain ⟨a, dx, d, h1, h2, h3, h4⟩ := h
  exact ⟨a, dx, d, h1, e _ _ h2, h3.mono e, h4⟩
def spKept (C : Addr) : Sp := fun vs H Q _ => ∃ x v, vs = [.str x, v] ∧
  ((x ∈ (["told", "factor"] : List Str) ∧ ∃ q, Nb C H v q ∧ Sz 100 q ∧ Lw q ∧ ∀ w H', Same H H' → Sh C H' w q → Q w H') ∨
   (x = "after" ∧ ((v = .str "ever" ∧ Q v H) ∨ (∃ a i, v = .ref a ∧ H a = some (.tup [.str "look", .int i]) ∧ Q v H) ∨
      (∃ a w q, v = .ref a ∧ H a = some (.tup [.str "doubt", w]) ∧ Nb C H w q ∧ Sz 100 q ∧ Lw q ∧ ∀ t w' H', Same H H' → H t = none → H' t = some (.tup [.str "doubt", w']) → Sh C H' w' q → Q (.ref t) H'))) ∨
   (x ∈ (["tries", "equal", "sliding", "keep"] : List Str) ∧ Q v H))
section
variable {Z : Cz} {f C : Addr} {fd : FuncData}
abbrev CAfter (Z : Cz) (C : Addr) : Prop := Cal Z CX0 8 "is_after" ["value"] [] (spAfter Z.K C)
theorem ok_is_setting (F : Fun Z.K "is_setting" "is_setting" s_is_setting f fd) (T : ShT Z C) (B : BkT Z) (M : ShM Z C) (c_is_above : CAbove Z C) (c_is_after : CAfter Z C) : Z.ok CX0 9 f fd ["field", "value"] (spSetting Z.K C) := by
  refine F.ok sc_is_setting (fun vs H Q E h => ?_) (fun cdv A outer s H vs Q E hr h => ?_)
  · obtain ⟨x, v, b, rfl, _⟩ := h
    rfl
  · obtain ⟨x, v, b, rfl, h, k⟩ := h
    obtain ⟨tm, gm⟩ := B.most
    refine ⟨_, (pss_cons (ps_if (pt_cmpR op_eq (pv 0) pe_str (nomark _))
      (pss_one (ps_ret (pe_or (pe_cmpR op_isN (pv 1) pe_non (nomark _)) (pe_one (pe_and (pe_cal M.isint (hr.mono (by decide)) (by rfl) pass0 (pa_cons (pv 1) pa_nil)) (pe_one (pe_chain op_le op_le pe_int (pv 1) (pe_glob (v := .int 6) rfl gm ⟨_, rfl⟩))))))))
      pss_nil)
      (pss_cons (ps_if (pt_cmpR op_eq (pv 0) pe_str (nomark _))
      (pss_one (ps_ret (pe_cal c_is_above (hr.mono (by decide)) (by rfl) pass0 (pa_cons (pv 1) pa_nil))))
      pss_nil)
      (pss_cons (ps_if (pt_cmpR op_eq (pv 0) pe_str (nomark _))
      (pss_one (ps_ret (pe_and (pe_cal M.isnum (hr.mono (by decide)) (by rfl) pass0 (pa_cons (pv 1) pa_nil)) (pe_one (pe_cmpR (op_both (op_cmp (op := .GtE) M.ge (hr.mono (by decide)) pass0) op_ge) (pv 1) pe_int (nomark _))))))
      pss_nil)
      (pss_cons (ps_if (pt_cmpR op_eq (pv 0) pe_str (nomark _))
      (pss_one (ps_ret (pe_cal c_is_after (hr.mono (by decide)) (by rfl) pass0 (pa_cons (pv 1) pa_nil))))
      pss_nil)
      (pss_one (ps_ret (pe_callB call_isi (by rfl) T.isi (by decide +kernel) (pa_cons (pv 1) (pa_cons (pe_ty "bool" (by rfl) T.bool (by decide +kernel)) pa_nil))))))))), ?_⟩
    have k0 := k H (Same.refl _)
    cases h with
    | triesN =>
      refine ⟨_, rfl, rfl, _, rfl, iteT ?_⟩
      exact ⟨_, rfl, rfl, _, rfl, iteT k0⟩
    | triesI i =>
      refine ⟨_, rfl, rfl, _, rfl, iteT ?_⟩
      refine ⟨_, rfl, rfl, _, rfl, iteF ?_⟩
      refine ⟨_, rfl, _, _, rfl, .base (.int _), .inl ⟨rfl, _, rfl, iteT ?_⟩⟩
      refine ⟨_, rfl, _, _, rfl, rfl, _, rfl, ?_⟩
      refine iteD (fun h1 => ?_) (fun h1 => ?_)
      · rw [decide_eq_true h1, Bool.true_and] at k0
        exact ⟨_, _, rfl, rfl, k0⟩
      · rw [decide_eq_false h1, Bool.false_and] at k0
        exact k0
    | triesX h hn =>
      refine ⟨_, rfl, rfl, _, rfl, iteT ?_⟩
      refine ⟨_, rfl, rfl, _, rfl, ?_⟩
      rw [decide_eq_false hn]
      refine iteF ?_
      obtain ⟨t, ty, hk⟩ := h
      refine ⟨_, rfl, v, t, rfl, ty, ?_⟩
      rcases hk with rfl | hk
      · exact .inr (.inl ⟨rfl, _, rfl, iteF k0⟩)
      · exact .inr (.inr ⟨hk, _, rfl, iteF k0⟩)
    | told h =>
      refine ⟨_, rfl, rfl, _, rfl, iteF ?_⟩
      refine ⟨_, rfl, rfl, _, rfl, iteT ?_⟩
      exact ⟨_, rfl, v, _, rfl, h, k⟩
    | @factor v q h hz =>
      refine ⟨_, rfl, rfl, _, rfl, iteF ?_⟩
      refine ⟨_, rfl, rfl, _, rfl, iteF ?_⟩
      refine ⟨_, rfl, rfl, _, rfl, iteT ?_⟩
      refine ⟨_, rfl, v, rfl, .inl ⟨⟨q, h⟩, _, rfl, iteT ?_⟩⟩
      rcases id h with hs | ⟨i, rfl, rfl⟩
      · refine ⟨_, rfl, .inl ⟨hs.ins, Nb.nf T (.inr ⟨0, rfl, rfl⟩), v, _, q, (0, 1), rfl, hs, .inr ⟨0, rfl, rfl⟩, hz.up (by decide), sz_zero, fun H' e => ?_⟩⟩
        rw [min_zero]
        exact k H' e
      · exact ⟨_, rfl, .inr ⟨_, _, rfl, rfl, k0⟩⟩
    | factorN h =>
      refine ⟨_, rfl, rfl, _, rfl, iteF ?_⟩
      refine ⟨_, rfl, rfl, _, rfl, iteF ?_⟩
      refine ⟨_, rfl, rfl, _, rfl, iteT ?_⟩
      exact ⟨_, rfl, v, rfl, .inr ⟨h, _, rfl, iteF k0⟩⟩
    | after h =>
      refine ⟨_, rfl, rfl, _, rfl, iteF ?_⟩
      refine ⟨_, rfl, rfl, _, rfl, iteF ?_⟩
      refine ⟨_, rfl, rfl, _, rfl, iteF ?_⟩
      refine ⟨_, rfl, rfl, _, rfl, iteT ?_⟩
      exact ⟨_, rfl, v, _, rfl, h, k⟩
    | flag hx c =>
      simp only [List.mem_cons, List.not_mem_nil, or_false] at hx
      rcases hx with rfl | rfl | rfl <;>
      · refine ⟨_, rfl, rfl, _, rfl, iteF ?_⟩
        refine ⟨_, rfl, rfl, _, rfl, iteF ?_⟩
        refine ⟨_, rfl, rfl, _, rfl, iteF ?_⟩
        refine ⟨_, rfl, rfl, _, rfl, iteF ?_⟩
        exact ⟨_, rfl, _, _, _, _, true, rfl, .ty "bool", .base (.bl _), kit_ty (by decide +kernel), k0⟩
    | flagN hx ty hk =>
      simp only [List.mem_cons, List.not_mem_nil, or_false] at hx
      rcases hx with rfl | rfl | rfl <;>
      · refine ⟨_, rfl, rfl, _, rfl, iteF ?_⟩
        refine ⟨_, rfl, rfl, _, rfl, iteF ?_⟩
        refine ⟨_, rfl, rfl, _, rfl, iteF ?_⟩
        refine ⟨_, rfl, rfl, _, rfl, iteF ?_⟩
        exact ⟨_, rfl, _, _, _, _, false, rfl, .ty "bool", ty, hk, k0⟩
theorem ok_as_kept (F : Fun Z.K "as_kept" "as_kept" s_as_kept f fd) (T : ShT Z C) (M : ShM Z C) : Z.ok CX0 6 f fd ["field", "value"] (spKept C) := by
  refine F.ok sc_as_kept (fun vs H Q E h => ?_) (fun cdv A outer s H vs Q E hr h => ?_)
  · obtain ⟨x, v, rfl, _⟩ := h
    rfl
  · obtain ⟨x, v, rfl, h⟩ := h
    refine ⟨_, (pss_cons (ps_if (PW.pt (pw_or (pt_cmpR op_eq (pv 0) pe_str (nomark _)) (pw_or1 (pt_cmpR op_eq (pv 0) pe_str (nomark _)))))
      (pss_one (ps_ret (pe_op (op_num (op := .Add) M.add M.na hr pass0) (pe_calC M.new1 (hr.mono (by decide)) (by rfl) pass0 (pa_cons pe_int pa_nil)) (pv 1))))
      pss_nil)
      (pss_cons (ps_if (PW.pt (pw_and (pt_cmpR op_eq (pv 0) pe_str (nomark _)) (pw_and1 (pt_cmpR op_eq (pe_ix ix_seq (pv 1) pe_int (fun _ _ => rfl)) pe_str (nomark _)))))
      (pss_one (ps_ret (pe_tup (pa_cons pe_str (pa_cons (pe_op (op_num (op := .Add) M.add M.na hr pass0) (pe_calC M.new1 (hr.mono (by decide)) (by rfl) pass0 (pa_cons pe_int pa_nil)) (pe_ix ix_tup (pv 1) pe_int (fun _ _ => rfl))) pa_nil)))))
      pss_nil)
      (pss_one (ps_ret (pv 1))))), ?_⟩
    have sum : ∀ {w : V} {q : Int × Int} {H1 : Hp} {Q1 : VK}, Nb C H1 w q → Sz 100 q → Lw q → (∀ w' H', Same H1 H' → Sh C H' w' q → Q1 w' H') → ∀ {x : V}, Sh C H1 x (Ps.low 0 1) → rNum C (spBin C 4000 gAdd) E0 x w H1 Q1 := fun {w q H1 Q1} hw hz hl kk {x} hx => by
      refine ⟨hx.ins, hw.num, x, w, _, q, rfl, hx, hw, ⟨by decide +kernel, by decide +kernel, by decide +kernel⟩, hz.up (by decide), fun w' H' e hw' => kk w' H' e ?_⟩
      rw [gAdd_zero hl] at hw'
      exact hw'
    rcases h with ⟨hx, q, hq, hz, hl, k⟩ | ⟨rfl, h⟩ | ⟨hx, k⟩
    · simp only [List.mem_cons, List.not_mem_nil, or_false] at hx
      have main : ∀ xa dx, H xa = none → H dx = none → dx ≠ xa → spShInit C [.ref xa, .int 0, .int 1] (upd (upd H dx (.own xa)) xa (.ins C dx [])) (fun v H2 => v = .non ∧ ∃ y, (start ["field", "value"] [.str x, v])[1]? = some (some y) ∧ True) E0 → True := fun _ _ _ _ _ _ => trivial
      rcases hx with rfl | rfl
      · refine ⟨_, rfl, rfl, _, rfl, iteT ?_⟩
        intro xa dx hxa hdx hne
        refine mk_shI (by decide) (by decide +kernel) hxa hdx hne fun H1 e1 z1 => ⟨rfl, _, rfl, ?_⟩
        exact sum (hq.mono e1) hz hl (fun w' H' e hw => k w' H' (e1.trans e) hw) z1
      · refine ⟨_, rfl, rfl, _, rfl, iteF ⟨_, rfl, rfl, _, rfl, iteT ?_⟩⟩
        intro xa dx hxa hdx hne
        refine mk_shI (by decide) (by decide +kernel) hxa hdx hne fun H1 e1 z1 => ⟨rfl, _, rfl, ?_⟩
        exact sum (hq.mono e1) hz hl (fun w' H' e hw => k w' H' (e1.trans e) hw) z1
    · refine ⟨_, rfl, rfl, _, rfl, iteF ⟨_, rfl, rfl, _, rfl, iteF ?_⟩⟩
      rcases h with ⟨rfl, k⟩ | ⟨a, i, rfl, ha, k⟩ | ⟨a, w, q, rfl, ha, hw, hz, hl, k⟩
      · refine ⟨_, rfl, rfl, _, rfl, iteT ?_⟩
        refine ⟨_, rfl, .inr (.inr ⟨_, _, _, rfl, rfl, (by decide +kernel), rfl, rfl, _, rfl, iteF ?_⟩)⟩
        exact ⟨_, rfl, k⟩
      · refine ⟨_, rfl, rfl, _, rfl, iteT ?_⟩
        refine ⟨_, rfl, .inr (.inl ⟨a, _, _, _, rfl, rfl, SqT.of ha, rfl, rfl, _, rfl, iteF ?_⟩)⟩
        exact ⟨_, rfl, k⟩
      · refine ⟨_, rfl, rfl, _, rfl, iteT ?_⟩
        refine ⟨_, rfl, .inr (.inl ⟨a, _, _, _, rfl, rfl, SqT.of ha, rfl, rfl, _, rfl, iteT ?_⟩)⟩
        intro xa dx hxa hdx hne
        refine mk_shI (by decide) (by decide +kernel) hxa hdx hne fun H1 e1 z1 => ⟨rfl, _, rfl, a, _, _, _, rfl, rfl, SqT.of (e1 _ _ ha), rfl, ?_⟩
        refine sum (hw.mono e1) hz hl (fun w' H' e hw' => ?_) z1
        refine ⟨(by show 2 ≤ sizeLine; decide), fun t ht => ?_⟩
        exact k t w' _ ((e1.trans e).trans (Same.upd ht)) ((e1.trans e).free ht) upd_same (hw'.mono (Same.upd ht))
    · simp only [List.mem_cons, List.not_mem_nil, or_false] at hx
      rcases hx with rfl | rfl | rfl | rfl <;> exact ⟨_, rfl, rfl, _, rfl, iteF ⟨_, rfl, rfl, _, rfl, iteF ⟨_, rfl, rfl, _, rfl, iteF ⟨_, rfl, k⟩⟩⟩⟩
end
end Ps

/-! Books: a book is made; its properties. -/
namespace Ps
open PySem PySem.Spec PyProof.Rows PySem.W L2

/-- the class of books -/
structure BkC (Z : Cz) (CB : Addr) : Prop where
  cl : Cls Z.K CB
  nS : NoAttr Z.K CB "settings"
  mg : Z.mg "Book" = some (.ref CB)
theorem stF_nodup : stF.Nodup := by decide +kernel
def zipK (n : Nat) (ws : List V) : List (Key × V) := ((stF.take n).zip ws).map fun p => (Sum.inr p.1, p.2)
theorem zipK_put {i : Nat} {x : Str} {ws : List V} {w : V} (hx : stF[i]? = some x) (hl : ws.length = i) : putK (zipK i ws) (.inr x) w = zipK (i + 1) (ws ++ [w]) := by
  have hi := (List.getElem?_eq_some_iff.mp hx).1
  have hlt : (stF.take i).length = ws.length := by rw [List.length_take]; omega
  have e1 : stF.take (i + 1) = stF.take i ++ [x] := by rw [List.take_succ, hx]; rfl
  have hn : valV (zipK i ws) (.inr x) = none := by
    have hno : ∀ kv ∈ zipK i ws, ¬ kv.1 = Sum.inr x := by
      intro kv hm he
      unfold zipK at hm
      obtain ⟨p, hp, rfl⟩ := List.mem_map.mp hm
      have hpx : p.1 = x := Sum.inr.inj he
      have h1 := (List.of_mem_zip hp).1
      rw [hpx] at h1
      have hnd : (stF.take i ++ [x]).Nodup := by
        rw [← e1]
        exact List.Sublist.nodup (List.take_sublist _ _) stF_nodup
      exact (List.nodup_append.mp hnd).2.2 x h1 x (by simp) rfl
    unfold valV
    rw [List.find?_eq_none.mpr (fun kv hm => by simpa using hno kv hm)]
    rfl
  rw [putK_new _ hn]
  unfold zipK
  rw [e1, List.zip_append hlt, List.map_append]
  rfl
/-- the i-th kept setting of b -/
def KpR (C : Addr) (H : Hp) (b : Bk) : Nat → V → Prop
  | 0, w => w = trV b.tries
  | 1, w => Sh C H w b.told
  | 2, w => Sh C H w b.factor
  | 3, w => w = .bl b.equal
  | 4, w => w = .bl b.sliding
  | 5, w => AfV C H w b.after
  | 6, w => w = .bl b.keep
  | _, _ => False
theorem KpR.mono {C : Addr} {H H' : Hp} {b : Bk} (e : Same H H') {i : Nat} {w : V} (h : KpR C H b i w) : KpR C H' b i w := by
  rcases i with _ | _ | _ | _ | _ | _ | _ | i
  · exact h
  · exact Sh.mono e h
  · exact Sh.mono e h
  · exact h
  · exact h
  · exact AfV.mono e h
  · exact h
  · exact h
/-- what a book may be made of -/
structure BkArg (C : Addr) (H : Hp) (vo vf va : V) (b : Bk) : Prop where
  ok : BkOk b
  told : Nb C H vo b.told
  factor : Nb C H vf b.factor
  after : AfA C H va b.after
theorem BkArg.mono {C : Addr} {H H' : Hp} {vo vf va : V} {b : Bk} (e : Same H H') (h : BkArg C H vo vf va b) : BkArg C H' vo vf va b := ⟨h.ok, h.told.mono e, h.factor.mono e, h.after.mono e⟩
def spBook (C CB : Addr) : Sp := fun vs H Q _ => ∃ x dx vo vf va b, vs = [.ref x, trV b.tries, vo, vf, .bl b.equal, .bl b.sliding, va, .bl b.keep] ∧ H x = some (.ins CB dx []) ∧ BkArg C H vo vf va b ∧
  ∀ d H', Keep x H H' → H' x = some (.ins CB dx [("settings", .ref d)]) → Sts C H' d b → Q .non H'
theorem tr_setting {K : Frag} {C : Addr} {H : Hp} {b : Bk} (h : BkOk b) : StB K C H "tries" (trV b.tries) true := by
  cases ht : b.tries with
  | none => exact .triesN
  | some i =>
    obtain ⟨h1, h2⟩ := h.tr i ht
    have := StB.triesI (K := K) (C := C) (H := H) i
    rw [decide_eq_true h1, decide_eq_true h2] at this
    exact this
theorem ab_true {K : Frag} {C : Addr} {H : Hp} {v : V} {q : Int × Int} (h : Nb C H v q) (hz : Sz 100 q) (hp : 0 < q.1) : AbB K C H v true := .inl ⟨q, h, hz, (decide_eq_true hp).symm⟩
theorem af_setting {K : Frag} {C : Addr} {H : Hp} {v : V} {af : Af} (h : AfA C H v af) (ho : AfOk af) : AfB K C H v true := by
  cases af with
  | ever =>
    obtain rfl : v = .str "ever" := h
    exact .str "ever"
  | doubt q =>
    obtain ⟨a, w, rfl, ha, hw⟩ := h
    exact .doubt ha (ab_true hw ho.2.1 ho.2.2)
  | look i =>
    obtain ⟨a, rfl, ha⟩ := h
    have := AfB.look (K := K) (C := C) ha
    rw [decide_eq_true ho.1, decide_eq_true ho.2] at this
    exact this
/-- the i-th given setting -/
theorem set_i {K : Frag} {C : Addr} {H : Hp} {vo vf va : V} {b : Bk} (h : BkArg C H vo vf va b) {i : Nat} {x : Str} (hx : stF[i]? = some x) : ∃ v, valV (stL (trV b.tries) vo vf (.bl b.equal) (.bl b.sliding) va (.bl b.keep)) (.inr x) = some v ∧ StB K C H x v true := by
  have hm := List.mem_of_getElem? hx
  simp only [stF, List.mem_cons, List.not_mem_nil, or_false] at hm
  rcases hm with rfl | rfl | rfl | rfl | rfl | rfl | rfl
  · exact ⟨_, st_tries .., tr_setting h.ok⟩
  · exact ⟨_, st_told .., .told (ab_true h.told h.ok.tz h.ok.tp)⟩
  · have := StB.factor (K := K) h.factor h.ok.fz
    rw [decide_eq_true h.ok.fp] at this
    exact ⟨_, st_factor .., this⟩
  · exact ⟨_, st_equal .., .flag (by simp) _⟩
  · exact ⟨_, st_sliding .., .flag (by simp) _⟩
  · exact ⟨_, st_after .., .after (af_setting h.after h.ok.af)⟩
  · exact ⟨_, st_keep .., .flag (by simp) _⟩
/-- the i-th setting is kept -/
theorem kept_i {C : Addr} {H : Hp} {vo vf va : V} {b : Bk} (h : BkArg C H vo vf va b) {i : Nat} {x : Str} (hx : stF[i]? = some x) {Q : VK} {E : XK} (k : ∀ w H', Same H H' → KpR C H' b i w → Q w H') : ∃ v, valV (stL (trV b.tries) vo vf (.bl b.equal) (.bl b.sliding) va (.bl b.keep)) (.inr x) = some v ∧ spKept C [.str x, v] H Q E := by
  rcases i with _ | _ | _ | _ | _ | _ | _ | i
  · obtain rfl := Option.some.inj hx
    exact ⟨_, st_tries .., _, _, rfl, .inr (.inr ⟨by simp, k _ H (Same.refl _) rfl⟩)⟩
  · obtain rfl := Option.some.inj hx
    exact ⟨_, st_told .., _, _, rfl, .inl ⟨by simp, _, h.told, h.ok.tz, h.ok.tl, fun w H' e hw => k w H' e hw⟩⟩
  · obtain rfl := Option.some.inj hx
    exact ⟨_, st_factor .., _, _, rfl, .inl ⟨by simp, _, h.factor, h.ok.fz, h.ok.fl, fun w H' e hw => k w H' e hw⟩⟩
  · obtain rfl := Option.some.inj hx
    exact ⟨_, st_equal .., _, _, rfl, .inr (.inr ⟨by simp, k _ H (Same.refl _) rfl⟩)⟩
  · obtain rfl := Option.some.inj hx
    exact ⟨_, st_sliding .., _, _, rfl, .inr (.inr ⟨by simp, k _ H (Same.refl _) rfl⟩)⟩
  · obtain rfl := Option.some.inj hx
    refine ⟨_, st_after .., _, _, rfl, .inr (.inl ⟨rfl, ?_⟩)⟩
    have ha := h.after
    have ho := h.ok.af
    cases haf : b.after with
    | ever =>
      rw [haf] at ha
      obtain rfl : va = .str "ever" := ha
      exact .inl ⟨rfl, k _ H (Same.refl _) (by show AfV C H _ b.after; rw [haf]; exact rfl)⟩
    | doubt q =>
      rw [haf] at ha ho
      obtain ⟨a, w, rfl, h1, h2⟩ := ha
      exact .inr (.inr ⟨a, w, q, rfl, h1, h2, ho.2.1, ho.1, fun t w' H' e _ ht hw => k _ H' e (by show AfV C H' _ b.after; rw [haf]; exact ⟨t, w', rfl, ht, hw⟩)⟩)
    | look i =>
      rw [haf] at ha
      obtain ⟨a, rfl, h1⟩ := ha
      exact .inr (.inl ⟨a, i, rfl, h1, k _ H (Same.refl _) (by show AfV C H _ b.after; rw [haf]; exact ⟨a, rfl, h1⟩)⟩)
  · obtain rfl := Option.some.inj hx
    exact ⟨_, st_keep .., _, _, rfl, .inr (.inr ⟨by simp, k _ H (Same.refl _) rfl⟩)⟩
  · exact absurd (List.getElem?_eq_some_iff.mp hx).1 (by show ¬ i + 7 < 7; omega)
theorem vec7 {ws : List V} (h : ws.length = 7) : ∃ a b c d e f g, ws = [a, b, c, d, e, f, g] := by
  match ws, h with
  | [a, b, c, d, e, f, g], _ => exact ⟨a, b, c, d, e, f, g, rfl⟩
section
variable {Z : Cz} {f C CB : Addr} {fd : FuncData}
abbrev CSetting (Z : Cz) (C : Addr) : Prop := Cal Z CX0 9 "is_setting" ["field", "value"] [] (spSetting Z.K C)
abbrev CKept (Z : Cz) (C : Addr) : Prop := Cal Z CX0 6 "as_kept" ["field", "value"] [] (spKept C)
theorem ok_Book {kws : List (Str × V)} (F : FunD Z.K "__init__" "Book.__init__" (defArgs s_Book_dd_init) (defBody s_Book_dd_init) (defScope s_Book_dd_init) [] kws f fd) (B : BkT Z) (K : BkC Z CB) (c_is_setting : CSetting Z C) (c_as_kept : CKept Z C) :
    Z.ok CX0 10 f fd ["self", "tries", "told", "factor", "equal", "sliding", "after", "keep"] (spBook C CB) := by
  refine FunD.ok F sc_Book_dd_init (fun vs H Q E h => ?_) (fun cdv A outer s H vs Q E hr h => ?_)
  · obtain ⟨x, dx, vo, vf, va, b, rfl, _⟩ := h
    rfl
  · obtain ⟨x, dx, vo, vf, va, b, rfl, hx, ha, k⟩ := h
    obtain ⟨aF, gF, sF⟩ := B.fields
    refine ⟨_, PSs.nox (pss_cons (ps_set (i := 8) sc_Book_dd_init.nd rfl (Or.inr rfl) (pe_disp (pps_cons pe_str (pv 1) (pps_cons pe_str (pv 2) (pps_cons pe_str (pv 3) (pps_cons pe_str (pv 4) (pps_cons pe_str (pv 5) pps_nil))))) (by rfl) (by rfl) (fun z => by cases z) (by decide)))
      (pss_cons (ps_set (i := 8) sc_Book_dd_init.nd rfl (Or.inr rfl) (pe_dispM (pv 8) (pps_cons pe_str (pv 6) (pps_cons pe_str (pv 7) pps_nil)) (by rfl) (by rfl) (fun z => by cases z) (by decide)))
      (pss_cons (ps_for PassesOwn.never rfl (pi_tup (pe_glob (v := .ref aF) rfl gF rfl)) (pg_name (i := 9) sc_Book_dd_init.nd rfl (Or.inl rfl))
      (pss_one (ps_if (pt_not (pt_val (pe_cal c_is_setting (hr.mono (by decide)) (by rfl) pass0 (pa_cons (pv 9) (pa_cons (pe_dget (hu_of hr) (pv 8) (pv 9) (fun _ _ => rfl)) pa_nil)))))
        (pss_one ps_never)
        pss_nil)))
      (pss_one (ps_fld (pv 0) (pe_dc (own := [("field", 9)]) (g := gName 9) (tt := tYes) (by rfl) sc_Book_dd_init.nd (pi_tup (pe_glob (v := .ref aF) rfl gF rfl)) (blkOk_by (own := [("field", 9)]) (N := ["self", "tries", "told", "factor", "equal", "sliding", "after", "keep", "given", "field"]) (sc := defScope s_Book_dd_init) (by decide +kernel)) (fun _ _ _ _ _ => (pg_name (i := 9) sc_Book_dd_init.nd rfl (Or.inl rfl))) (fun _ _ _ _ _ => pts_nil) (fun _ _ _ _ _ => (pv 9)) (fun _ _ _ _ _ => (pe_cal c_as_kept (hr.mono (by decide)) (by rfl) pass0 (pa_cons (pv 9) (pa_cons (pe_dget (hu_of hr) (pv 8) (pv 9) (fun _ _ => rfl)) pa_nil))))) rfl))))), ?_⟩
    intro p hp
    refine ⟨_, rfl, _, rfl, _, rfl, _, rfl, _, rfl, upd_same, [(.inr "tries", trV b.tries), (.inr "told", vo), (.inr "factor", vf), (.inr "equal", .bl b.equal), (.inr "sliding", .bl b.sliding)], rfl, (by show 5 ≤ 15; decide), ?_⟩
    have e1 : Same H (upd (upd H p (.dK [])) p (.dK (mergeK [] [(.inr "tries", trV b.tries), (.inr "told", vo), (.inr "factor", vf), (.inr "equal", .bl b.equal), (.inr "sliding", .bl b.sliding)]))) := fun c o h => by
      rw [upd_ne (ne_of_none h hp), upd_ne (ne_of_none h hp)]; exact h
    have hp1 : (upd (upd H p (.dK [])) p (.dK (mergeK [] [(.inr "tries", trV b.tries), (.inr "told", vo), (.inr "factor", vf), (.inr "equal", .bl b.equal), (.inr "sliding", .bl b.sliding)]))) p = some (.dK [(.inr "tries", trV b.tries), (.inr "told", vo), (.inr "factor", vf), (.inr "equal", .bl b.equal), (.inr "sliding", .bl b.sliding)]) := upd_same
    generalize (upd (upd H p (.dK [])) p (.dK (mergeK [] [(.inr "tries", trV b.tries), (.inr "told", vo), (.inr "factor", vf), (.inr "equal", .bl b.equal), (.inr "sliding", .bl b.sliding)]))) = H1 at e1 hp1
    intro p2 hp2
    have hne : p2 ≠ p := (ne_of_none hp1 hp2).symm
    refine ⟨_, rfl, p, _, rfl, .inl (by rw [upd_ne hne.symm]; exact hp1), upd_same, hne, (by show 5 ≤ 100; decide), fun q hq => ?_⟩
    have hq2 : p2 ≠ q := ne_of_none upd_same hq
    refine ⟨_, rfl, _, rfl, upd_same, (by rw [upd_ne hq2]; exact upd_same), hq2, [(.inr "after", va), (.inr "keep", .bl b.keep)], rfl, (by show 2 ≤ 15; decide), ?_⟩
    have hqH1 : H1 q = none := by
      rw [upd_ne hq2.symm, upd_ne hq2.symm] at hq
      exact hq
    show tSeq _ _ _ _ (upd (upd (upd (upd (upd H1 p2 (.dK [])) p2 (.dK _)) q (.dK [])) q (.dK _)) p2 (.dK (stL (trV b.tries) vo vf (.bl b.equal) (.bl b.sliding) va (.bl b.keep))))
    have e2 : ∀ o1 o2 o3 o4 o5, Same H1 (upd (upd (upd (upd (upd H1 p2 o1) p2 o2) q o3) q o4) p2 o5) := fun o1 o2 o3 o4 o5 c o h => by
      rw [upd_ne (ne_of_none h hp2), upd_ne (ne_of_none h hqH1), upd_ne (ne_of_none h hqH1), upd_ne (ne_of_none h hp2), upd_ne (ne_of_none h hp2)]
      exact h
    have hp3 : ∀ o1 o2 o3 o4 o5, (upd (upd (upd (upd (upd H1 p2 o1) p2 o2) q o3) q o4) p2 o5) p2 = some o5 := fun _ _ _ _ _ => upd_same
    generalize hH3 : (upd (upd (upd (upd (upd H1 p2 (.dK [])) p2 (.dK _)) q (.dK [])) q (.dK _)) p2 (.dK (stL (trV b.tries) vo vf (.bl b.equal) (.bl b.sliding) va (.bl b.keep)))) = H3
    have e3 : Same H H3 := by rw [← hH3]; exact e1.trans (e2 _ _ _ _ _)
    have hg : H3 p2 = some (.dK (stL (trV b.tries) vo vf (.bl b.equal) (.bl b.sliding) va (.bl b.keep))) := by rw [← hH3]; exact hp3 _ _ _ _ _
    clear hH3 hp3 e2
    have ha3 := ha.mono e3
    have sl : ∀ H', SqT Z.K H' aF (stF.map V.str) := sF
    -- the tests
    refine ⟨aF, rfl, ⟨_, sF H3⟩, for_tup (K := Z.K) (a := aF) (xs := stF.map V.str) (fun i σ H' => ∃ o, σ = [some (.ref x), some (trV b.tries), some vo, some vf, some (.bl b.equal), some (.bl b.sliding), some va, some (.bl b.keep), some (.ref p2), o] ∧ Same H3 H') ⟨_, rfl, Same.refl _⟩ (fun i σ H' _ _ => sl H') ?_ ?_⟩
    · rintro i y σ H4 hy ⟨o, rfl, e4⟩
      rw [List.getElem?_map] at hy
      obtain ⟨z, hz, rfl⟩ := Option.map_eq_some_iff.mp hy
      obtain ⟨v, hv, hs⟩ := set_i (K := Z.K) (ha3.mono e4) hz
      have hd : DGet H4 p2 (.str z) (some v) := by rw [← hv]; exact DGet.k (k := .inr z) (e4 _ _ hg)
      refine ⟨_, rfl, _, rfl, _, rfl, p2, v, rfl, hd, z, v, true, rfl, hs, fun H5 e5 => ?_⟩
      exact ⟨_, rfl, iteF ⟨_, rfl, e4.trans e5⟩⟩
    rintro σ H4 ⟨o, rfl, e4⟩
    have ha4 := ha3.mono e4
    have hg4 := e4 _ _ hg
    -- the settings
    refine ⟨aF, rfl, ⟨_, sF H4⟩, fun D hD => ?_⟩
    refine dc_tup (K := Z.K) (a := aF) (xs := stF.map V.str) (fun i H' => ∃ ws : List V, ws.length = i ∧ H' D = some (.dK (zipK i ws)) ∧ (∀ j w, ws[j]? = some w → KpR C H' b j w) ∧ Same H4 H') ⟨[], rfl, upd_same, (fun j w h => by simp at h), Same.upd hD⟩ (fun i H' _ _ => sl H') ?_ ?_
    · rintro i y H5 hy ⟨ws, hl, hD5, hw, e5⟩
      rw [List.getElem?_map] at hy
      obtain ⟨z, hz, rfl⟩ := Option.map_eq_some_iff.mp hy
      refine ⟨rfl, ?_⟩
      have hi : i < 7 := (List.getElem?_eq_some_iff.mp hz).1
      obtain ⟨v, hv, hs⟩ := kept_i (E := E0) (Q := fun w H6 => ∃ kvs k, V.str z = kV k ∧ H6 D = some (.dK kvs) ∧ kvs.length < sizeLine ∧ ∃ ws : List V, ws.length = i + 1 ∧ (upd H6 D (.dK (putK kvs k w))) D = some (.dK (zipK (i + 1) ws)) ∧ (∀ j w', ws[j]? = some w' → KpR C (upd H6 D (.dK (putK kvs k w))) b j w') ∧ Same H4 (upd H6 D (.dK (putK kvs k w)))) (ha4.mono e5) hz fun w H6 e6 hk => by
        refine ⟨zipK i ws, .inr z, rfl, e6 _ _ hD5, ?_, ws ++ [w], ?_, ?_, ?_, ?_⟩
        · unfold zipK
          rw [List.length_map, List.length_zip, List.length_take]
          exact small1000' (by omega)
        · rw [List.length_append, hl]; rfl
        · rw [upd_same, zipK_put hz hl]
        · have ek : ∀ {j : Nat} {w' : V}, KpR C H6 b j w' → KpR C (upd H6 D (.dK (putK (zipK i ws) (.inr z) w))) b j w' := fun {j w'} h => by
            have nd : Nd H6 (upd H6 D (.dK (putK (zipK i ws) (.inr z) w))) := fun c o hc hn => by
              rw [upd_ne (fun hz => by rw [hz, e6 _ _ hD5] at hc; exact hn _ (Option.some.inj hc).symm)]
              exact hc
            have sh : ∀ {v : V} {q : Int × Int}, Sh C H6 v q → Sh C (upd H6 D (.dK (putK (zipK i ws) (.inr z) w))) v q := fun {v q} ⟨a, dx, h1, h2⟩ => ⟨a, dx, h1, nd _ _ h2 (fun _ z => nomatch z)⟩
            rcases j with _ | _ | _ | _ | _ | _ | _ | j
            · exact h
            · exact sh h
            · exact sh h
            · exact h
            · exact h
            · show AfV C _ _ b.after
              have h : AfV C H6 w' b.after := h
              cases haf : b.after with
              | ever => rw [haf] at h; exact h
              | doubt q => rw [haf] at h; obtain ⟨a, w2, h1, h2, h3⟩ := h; exact ⟨a, w2, h1, nd _ _ h2 (fun _ z => nomatch z), sh h3⟩
              | look i => rw [haf] at h; obtain ⟨a, h1, h2⟩ := h; exact ⟨a, h1, nd _ _ h2 (fun _ z => nomatch z)⟩
            · exact h
            · exact h
          intro j w' hj
          by_cases hjl : j < ws.length
          · rw [List.getElem?_append_left hjl] at hj
            exact ek ((hw j w' hj).mono e6)
          · rw [List.getElem?_append_right (by omega)] at hj
            have hj0 : j = ws.length := by
              have := (List.getElem?_eq_some_iff.mp hj).1
              simp at this
              omega
            subst hj0
            simp at hj
            subst hj
            rw [hl]
            exact ek hk
        · intro c o hc
          rw [upd_ne (ne_of_none hc hD)]
          exact e6 _ _ (e5 _ _ hc)
      have hd : DGet H5 p2 (.str z) (some v) := by rw [← hv]; exact DGet.k (k := .inr z) (e5 _ _ hg4)
      exact ⟨_, rfl, _, rfl, _, rfl, _, rfl, p2, v, rfl, hd, hs⟩
    · rintro H5 ⟨ws, hl, hD5, hw, e5⟩
      have hl : ws.length = 7 := hl
      obtain ⟨w0, w1, w2, w3, w4, w5, w6, rfl⟩ := vec7 hl
      have h0 : w0 = trV b.tries := hw 0 _ rfl
      have h3 : w3 = .bl b.equal := hw 3 _ rfl
      have h4 : w4 = .bl b.sliding := hw 4 _ rfl
      have h6 : w6 = .bl b.keep := hw 6 _ rfl
      subst h0 h3 h4 h6
      have e05 : Same H H5 := (e3.trans e4).trans e5
      refine ⟨_, rfl, x, CB, dx, [], rfl, e05 _ _ hx, K.cl, K.nS, (by show 0 < 1000; decide), ?_⟩
      have nd : ∀ c o, H5 c = some o → (∀ dx fs, o ≠ .ins CB dx fs) ∨ c ≠ x → (upd H5 x (.ins CB dx (putF "settings" (.ref D) []))) c = some o := fun c o hc hn => by
        have : c ≠ x := by
          rcases hn with hn | hn
          · intro z
            rw [z, e05 _ _ hx] at hc
            exact hn _ _ (Option.some.inj hc).symm
          · exact hn
        rw [upd_ne this]
        exact hc
      have hDx : D ≠ x := fun z => by
        rw [z, e05 _ _ hx] at hD5
        cases hD5
      have shx : ∀ {v : V} {q : Int × Int}, Sh C H5 v q → Sh C (upd H5 x (.ins CB dx (putF "settings" (.ref D) []))) v q := fun {v q} ⟨a, dy, h1, h2⟩ => ⟨a, dy, h1, nd _ _ h2 (.inr fun z => by
        rw [z, e05 _ _ hx] at h2
        cases h2)⟩
      refine k D _ (fun c hc o ho => by rw [upd_ne hc]; exact e05 _ _ ho) upd_same ⟨w1, w2, w5, ?_, shx (hw 1 _ rfl), shx (hw 2 _ rfl), ?_⟩
      · rw [upd_ne hDx]
        exact hD5
      · have h : AfV C H5 w5 b.after := hw 5 _ rfl
        cases haf : b.after with
        | ever => rw [haf] at h; exact h
        | doubt q => rw [haf] at h; obtain ⟨a, w2, h1, h2, h3⟩ := h; exact ⟨a, w2, h1, nd _ _ h2 (.inl fun _ _ z => nomatch z), shx h3⟩
        | look i => rw [haf] at h; obtain ⟨a, h1, h2⟩ := h; exact ⟨a, h1, nd _ _ h2 (.inl fun _ _ z => nomatch z)⟩
end
end Ps

/-! Books: ==, properties. -/
namespace Ps
open PySem PySem.Spec PyProof.Rows PySem.W L2

def shR (C : Addr) : Eqb := fun x y b H => ∃ q r, Sh C H x q ∧ Sh C H y r ∧ Sz 4000 q ∧ Sz 4000 r ∧ b = decide (gMin q r = 0)
theorem Sh.nd {C : Addr} {H H' : Hp} {v : V} {q : Int × Int} (e : Nd H H') (h : Sh C H v q) : Sh C H' v q := by
  obtain ⟨a, dx, h1, h2⟩ := h
  exact ⟨a, dx, h1, e _ _ h2 (fun _ z => nomatch z)⟩
theorem mon_shR {C : Addr} : MonB (shR C) := fun x y b H H' e d => by
  obtain ⟨q, r, h1, h2, h3⟩ := d
  exact ⟨q, r, h1.nd e, h2.nd e, h3⟩
theorem Sh.inj {C : Addr} {H : Hp} {v : V} {q r : Int × Int} (h1 : Sh C H v q) (h2 : Sh C H v r) : q = r := by
  obtain ⟨a, dx, rfl, h1⟩ := h1
  obtain ⟨b, dy, e, h2⟩ := h2
  cases e
  rw [h1] at h2
  have h3 := HO.ins.inj (Option.some.inj h2)
  have h4 := h3.2.2
  unfold shF at h4
  simp only [List.cons.injEq, Prod.mk.injEq, V.int.injEq, true_and, and_true] at h4
  exact Prod.ext h4.1 h4.2
theorem own_sh {C : Addr} {H : Hp} {x y : V} {q r : Int × Int} (h1 : Sh C H x q) (h2 : Sh C H y r) (z1 : Sz 4000 q) (z2 : Sz 4000 r) : DOwn C (shR C) x y (decide (gMin q r = 0)) H := by
  have h1' := h1
  have h2' := h2
  obtain ⟨a, dx, rfl, ha⟩ := h1'
  obtain ⟨c, dy, rfl, hc⟩ := h2'
  refine ⟨a, c, dx, dy, _, _, rfl, rfl, ha, hc, ⟨q, r, h1, h2, z1, z2, rfl⟩, fun z => ?_⟩
  subst z
  rw [h1.inj h2]
  exact decide_eq_true (by unfold gMin; omega)
/-- what may stand in a tuple of a setting -/
def dIn (C : Addr) : Eqb := fun x y b H => DFl x y b H ∨ DOwn C (shR C) x y b H
/-- what may be a setting -/
def dB (K : Frag) (C : Addr) : Eqb := fun x y b H => dIn C x y b H ∨ (DFT K x y b H ∨ DTupB K (dIn C) x y b H)
theorem mon_in {C : Addr} : MonB (dIn C) := MonB.or mon_fl (mon_own mon_shR)
theorem mon_dB {K : Frag} {C : Addr} : MonB (dB K C) := MonB.or mon_in (MonB.or mon_ft (mon_tupB mon_in))
theorem sh_sp {K : Frag} {C : Addr} : ∀ x y b H Q, shR C x y b H → (∀ H', Same H H' → Q (.bl b) H') → spShEq K C [x, y] H Q E0 := by
  rintro x y b H Q ⟨q, r, h1, h2, z1, z2, rfl⟩ k
  exact ⟨x, y, q, rfl, h1, .inl ⟨r, .inl h2, z1, z2, k⟩⟩
section
variable {Z : Cz} {X : Cx} {C : Addr}
theorem eqB_in (M : ShM Z C) (z : InZ Z X) : EqB X 6 (dIn C) := EqB.or (eqB_fl.mono (Nat.zero_le _)) (eqB_own M.eq sh_sp z)
theorem eqB_dB (M : ShM Z C) (z : InZ Z X) : EqB X 7 (dB Z.K C) := by
  have h2 := eqB_ft (X := X)
  have h3 := eqB_tup (X := X) mon_in (eqB_in M z)
  rw [z.K] at h2 h3
  exact EqB.or ((eqB_in M z).mono (by decide)) (EqB.or (h2.mono (Nat.zero_le _)) h3)
end
theorem eqV_tr (a b : Option Int) : eqV (trV a) (trV b) = decide (a = b) := by
  cases a with
  | none =>
    cases b with
    | none => rfl
    | some j => rfl
  | some i =>
    cases b with
    | none => rfl
    | some j =>
      show (i == j) = _
      by_cases h : i = j
      · subst h; simp
      · have : ¬ (some i = some j) := fun z => h (Option.some.inj z)
        rw [decide_eq_false this]
        simpa using h
theorem eqV_bl (a b : Bool) : eqV (.bl a) (.bl b) = decide (a = b) := by cases a <;> cases b <;> rfl
theorem flat_tr (a : Option Int) : flatV (trV a) = true := by cases a <;> rfl
theorem af_eq {K : Frag} {C : Addr} {H : Hp} {v w : V} {a1 a2 : Af} (h1 : AfV C H v a1) (h2 : AfV C H w a2) (o1 : AfOk a1) (o2 : AfOk a2) : dB K C v w (decide (a1 = a2)) H := by
  cases a1 with
  | ever =>
    obtain rfl : v = .str "ever" := h1
    cases a2 with
    | ever =>
      obtain rfl : w = .str "ever" := h2
      exact .inl (.inl ⟨rfl, rfl, rfl⟩)
    | doubt q =>
      obtain ⟨a, x, rfl, ha, _⟩ := h2
      exact .inr (.inl ⟨rfl, _, a, _, SqT.of ha, .inl ⟨rfl, rfl⟩⟩)
    | look i =>
      obtain ⟨a, rfl, ha⟩ := h2
      exact .inr (.inl ⟨rfl, _, a, _, SqT.of ha, .inl ⟨rfl, rfl⟩⟩)
  | doubt q =>
    obtain ⟨a, x, rfl, ha, hx⟩ := h1
    cases a2 with
    | ever =>
      obtain rfl : w = .str "ever" := h2
      exact .inr (.inl ⟨rfl, _, a, _, SqT.of ha, .inr ⟨rfl, rfl⟩⟩)
    | doubt r =>
      obtain ⟨c, y, rfl, hc, hy⟩ := h2
      have e : decide (Af.doubt q = Af.doubt r) = decide (gMin q r = 0) := decide_eq_decide.mpr ⟨fun z => (gMin_eq o1.1 o2.1).mpr (Af.doubt.inj z), fun z => by rw [(gMin_eq o1.1 o2.1).mp z]⟩
      rw [e]
      refine .inr (.inr ⟨a, c, _, _, rfl, rfl, SqT.of ha, SqT.of hc, .yes (.inl ⟨rfl, rfl, rfl⟩) ?_, fun z => ?_⟩)
      · cases hb : decide (gMin q r = 0) with
        | false => exact .no (.inr (hb ▸ own_sh hx hy (o1.2.1.up (by decide)) (o2.2.1.up (by decide))))
        | true => exact .yes (.inr (hb ▸ own_sh hx hy (o1.2.1.up (by decide)) (o2.2.1.up (by decide)))) .nil
      · subst z
        rw [ha] at hc
        have hxy := HO.tup.inj (Option.some.inj hc)
        simp only [List.cons.injEq, true_and, and_true] at hxy
        subst hxy
        rw [hx.inj hy]
        exact decide_eq_true (by unfold gMin; omega)
    | look i =>
      obtain ⟨c, rfl, hc⟩ := h2
      refine .inr (.inr ⟨a, c, _, _, rfl, rfl, SqT.of ha, SqT.of hc, .no (.inl ⟨rfl, rfl, rfl⟩), fun z => ?_⟩)
      subst z
      rw [ha] at hc
      cases hc
  | look i =>
    obtain ⟨a, rfl, ha⟩ := h1
    cases a2 with
    | ever =>
      obtain rfl : w = .str "ever" := h2
      exact .inr (.inl ⟨rfl, _, a, _, SqT.of ha, .inr ⟨rfl, rfl⟩⟩)
    | doubt r =>
      obtain ⟨c, y, rfl, hc, hy⟩ := h2
      refine .inr (.inr ⟨a, c, _, _, rfl, rfl, SqT.of ha, SqT.of hc, .no (.inl ⟨rfl, rfl, rfl⟩), fun z => ?_⟩)
      subst z
      rw [ha] at hc
      cases hc
    | look j =>
      obtain ⟨c, rfl, hc⟩ := h2
      have e : decide (Af.look i = Af.look j) = decide (i = j) := decide_eq_decide.mpr ⟨Af.look.inj, fun z => by rw [z]⟩
      have e2 : eqV (.int i) (.int j) = decide (i = j) := by
        show (i == j) = _
        by_cases h : i = j
        · subst h; simp
        · rw [decide_eq_false h]; simpa using h
      rw [e]
      refine .inr (.inr ⟨a, c, _, _, rfl, rfl, SqT.of ha, SqT.of hc, .yes (.inl ⟨rfl, rfl, rfl⟩) ?_, fun z => ?_⟩)
      · cases hb : decide (i = j) with
        | false => exact .no (.inl ⟨rfl, rfl, by rw [e2, hb]⟩)
        | true => exact .yes (.inl ⟨rfl, rfl, by rw [e2, hb]⟩) .nil
      · subst z
        rw [ha] at hc
        have hxy := HO.tup.inj (Option.some.inj hc)
        simp only [List.cons.injEq, true_and, and_true, V.int.injEq] at hxy
        exact decide_eq_true hxy
theorem trV_inj {a b : Option Int} (h : trV a = trV b) : a = b := by
  cases a <;> cases b <;> simp [trV] at h ⊢
  exact h
theorem AfV.inj {C : Addr} {H : Hp} {v : V} {a1 a2 : Af} (h1 : AfV C H v a1) (h2 : AfV C H v a2) : a1 = a2 := by
  cases a1 with
  | ever =>
    obtain rfl : v = .str "ever" := h1
    cases a2 with
    | ever => rfl
    | doubt q => obtain ⟨a, x, e, _⟩ := h2; cases e
    | look i => obtain ⟨a, e, _⟩ := h2; cases e
  | doubt q =>
    obtain ⟨a, x, rfl, ha, hx⟩ := h1
    cases a2 with
    | ever => cases (show V.ref a = .str "ever" from h2)
    | doubt r =>
      obtain ⟨c, y, e, hc, hy⟩ := h2
      cases e
      rw [ha] at hc
      have hxy := HO.tup.inj (Option.some.inj hc)
      simp only [List.cons.injEq, true_and, and_true] at hxy
      subst hxy
      rw [hx.inj hy]
    | look i => obtain ⟨c, e, hc⟩ := h2; cases e; rw [ha] at hc; cases hc
  | look i =>
    obtain ⟨a, rfl, ha⟩ := h1
    cases a2 with
    | ever => cases (show V.ref a = .str "ever" from h2)
    | doubt r => obtain ⟨c, y, e, hc, hy⟩ := h2; cases e; rw [ha] at hc; cases hc
    | look j =>
      obtain ⟨c, e, hc⟩ := h2
      cases e
      rw [ha] at hc
      have hxy := HO.tup.inj (Option.some.inj hc)
      simp only [List.cons.injEq, true_and, and_true, V.int.injEq] at hxy
      rw [hxy]
theorem Sts.inj {C d : Addr} {H : Hp} {b c : Bk} (h1 : Sts C H d b) (h2 : Sts C H d c) : b = c := by
  obtain ⟨vo, vf, va, h1, s1, s2, s3⟩ := h1
  obtain ⟨wo, wf, wa, h2, t1, t2, t3⟩ := h2
  rw [h1] at h2
  have h := HO.dK.inj (Option.some.inj h2)
  unfold stL at h
  simp only [List.cons.injEq, Prod.mk.injEq, true_and, and_true, V.bl.injEq] at h
  obtain ⟨e1, rfl, rfl, e4, e5, rfl, e7⟩ := h
  obtain ⟨b1, b2, b3, b4, b5, b6, b7⟩ := b
  obtain ⟨c1, c2, c3, c4, c5, c6, c7⟩ := c
  have e1 := trV_inj e1
  have e2 := s1.inj t1
  have e3 := s2.inj t2
  have e6 := s3.inj t3
  simp only at e1 e2 e3 e4 e5 e6 e7
  subst e1 e2 e3 e4 e5 e6 e7
  rfl
theorem sts_eq {K : Frag} {C d e : Addr} {H : Hp} {b c : Bk} (h1 : Sts C H d b) (h2 : Sts C H e c) (o1 : BkOk b) (o2 : BkOk c) : (DDct (dB K C) (.ref d) (.ref e) (decide (b = c)) H) ∨ DDctS (.ref d) (.ref e) (decide (b = c)) H := by
  by_cases hde : d = e
  · subst hde
    have := h1.inj h2
    obtain ⟨_, _, _, hd, _⟩ := h1
    exact .inr ⟨d, _, rfl, rfl, hd, decide_eq_true this⟩
  · obtain ⟨vo, vf, va, hd, s1, s2, s3⟩ := h1
    obtain ⟨wo, wf, wa, he, t1, t2, t3⟩ := h2
    refine .inl ⟨d, e, _, _, rfl, rfl, hde, hd, he, .inr ⟨rfl, ?_⟩⟩
    have z1 := (own_sh s1 t1 (o1.tz.up (by decide)) (o2.tz.up (by decide)))
    have z2 := (own_sh s2 t2 (o1.fz.up (by decide)) (o2.fz.up (by decide)))
    have main := EqD.step (D := dB K C) (H := H) (st_tries (trV c.tries) wo wf (.bl c.equal) (.bl c.sliding) wa (.bl c.keep)) (.inl (.inl ⟨flat_tr b.tries, flat_tr c.tries, rfl⟩))
      (EqD.step (st_told ..) (.inl (.inr z1)) (EqD.step (st_factor ..) (.inl (.inr z2)) (EqD.step (v := .bl b.equal) (st_equal ..) (.inl (.inl ⟨rfl, rfl, rfl⟩)) (EqD.step (v := .bl b.sliding) (st_sliding ..) (.inl (.inl ⟨rfl, rfl, rfl⟩))
        (EqD.step (st_after ..) (af_eq s3 t3 o1.af o2.af) (EqD.step (v := .bl b.keep) (st_keep ..) (.inl (.inl ⟨rfl, rfl, rfl⟩)) .nil))))))
    have eb : decide (b = c) = (eqV (trV b.tries) (trV c.tries) && (decide (gMin b.told c.told = 0) && (decide (gMin b.factor c.factor = 0) && (eqV (.bl b.equal) (.bl c.equal) && (eqV (.bl b.sliding) (.bl c.sliding) && (decide (b.after = c.after) && (eqV (.bl b.keep) (.bl c.keep) && true))))))) := by
      rw [eqV_tr, eqV_bl, eqV_bl, eqV_bl]
      have g1 := gMin_eq o1.tl o2.tl
      have g2 := gMin_eq o1.fl o2.fl
      obtain ⟨b1, b2, b3, b4, b5, b6, b7⟩ := b
      obtain ⟨c1, c2, c3, c4, c5, c6, c7⟩ := c
      simp only at g1 g2
      refine Bool.eq_iff_iff.mpr ?_
      simp only [decide_eq_true_eq, Bool.and_eq_true, Bk.mk.injEq, g1, g2, and_true]
    rw [eb]
    exact main
section
variable {Z : Cz} {f C CB : Addr} {fd : FuncData}
/-- what is asked of the class of books by isinstance -/
structure BkI (Z : Cz) (CB : Addr) : Prop where
  ha : findIn Z.K (.ref CB) "__class__" = some (some (.builtin "object.__class__"))
  hn : specialIn Z.K (.builtin "object.__class__") "__get__" = some (some (.builtin "getset_descriptor.__get__"))
  htk : takesIn Z.K (.builtin "object.__class__") = some true
  hm : mroIn Z.K CB (.type "object") = some true
  kCC : kitOne Z.K (.ref CB) (.ref CB) = some true
  kIC : kitOne Z.K (.type "int") (.ref CB) = some false
  isi : Z.mg "isinstance" = none
def spBkEq (K : Frag) (C CB : Addr) : Sp := fun vs H Q _ => ∃ x y b, vs = [x, y] ∧ BkAt C CB H x b ∧ ((∃ c, BkAt C CB H y c ∧ ∀ H', Same H H' → Q (.bl (decide (b = c))) H') ∨ (∃ t, TyX K H y t ∧ kitOne K t (.ref CB) = some false ∧ Q (.bl false) H))
theorem ok_BkEq (F : Fun Z.K "__eq__" "Book.__eq__" s_Book_dd_eq f fd) (K : BkC Z CB) (J : BkI Z CB) (M : ShM Z C) : Z.ok CX0 9 f fd ["self", "other"] (spBkEq Z.K C CB) := by
  refine F.ok sc_Book_dd_eq (fun vs H Q E h => ?_) (fun cdv A outer s H vs Q E hr h => ?_)
  · obtain ⟨x, y, b, rfl, _⟩ := h
    rfl
  · obtain ⟨x, y, b, rfl, hx, h⟩ := h
    refine ⟨_, (pss_one (ps_ret (pe_and (pe_callB call_isi (by rfl) J.isi (by decide +kernel) (pa_cons (pv 1) (pa_cons (pe_glob (v := .ref CB) rfl K.mg rfl) pa_nil))) (pe_one (pe_cmpR (op_eqB (RcB.or (rcB_dct (n := 7) mon_dB (eqB_dB M ⟨rfl, rfl, rfl, rfl, rfl⟩)) (rcB_dctS.mono (by decide))) hr) (pe_fld (pv 0) rfl) (pe_fld (pv 1) rfl) (nomark _)))))), ?_⟩
    rcases h with ⟨c, hy, k⟩ | ⟨t, ty, hk, k⟩
    · obtain ⟨a, dx, d, rfl, ha, hs, ho⟩ := hx
      obtain ⟨a2, dx2, d2, rfl, ha2, hs2, ho2⟩ := hy
      refine ⟨_, rfl, _, _, _, _, true, rfl, .own CB, .base (.ins ha2 K.cl J.ha J.hn J.htk J.hm), J.kCC, _, rfl, iteT ?_⟩
      refine ⟨_, rfl, a, CB, dx, _, _, rfl, ha, K.cl, K.nS, rfl, _, rfl, a2, CB, dx2, _, _, rfl, ha2, K.cl, K.nS, rfl, ?_⟩
      exact ⟨_, sts_eq hs hs2 ho ho2, k⟩
    · exact ⟨_, rfl, _, _, _, _, false, rfl, .own CB, ty, hk, _, rfl, iteF k⟩
/-! properties -/
def spProp (C CB : Addr) (g : Bk → V → Hp → Prop) : Sp := fun vs H Q _ => ∃ x b, vs = [x] ∧ BkAt C CB H x b ∧ ∀ v, g b v H → Q v H
theorem ok_p_tries (F : Fun Z.K "tries" "Book.tries" s_Book_tries f fd) (K : BkC Z CB) : Z.ok CX0 1 f fd ["self"] (spProp C CB (fun b v H => v = trV b.tries)) := by
  refine F.ok sc_Book_tries (fun vs H Q E h => ?_) (fun cdv A outer s H vs Q E hr h => ?_)
  · obtain ⟨x, b, rfl, _⟩ := h
    rfl
  · obtain ⟨x, b, rfl, hx, k⟩ := h
    obtain ⟨a, dx, d, rfl, ha, ⟨vo, vf, va, hd, h1, h2, h3⟩, ho⟩ := hx
    refine ⟨_, (pss_one (ps_ret (pe_dget (hu_of hr) (pe_fld (pv 0) rfl) pe_str (fun _ _ => rfl)))), ?_⟩
    exact ⟨_, rfl, a, CB, dx, _, _, rfl, ha, K.cl, K.nS, rfl, d, _, rfl, DGet.k (k := .inr "tries") hd, k _ rfl⟩
theorem ok_p_told (F : Fun Z.K "told" "Book.told" s_Book_told f fd) (K : BkC Z CB) : Z.ok CX0 1 f fd ["self"] (spProp C CB (fun b v H => Sh C H v b.told)) := by
  refine F.ok sc_Book_told (fun vs H Q E h => ?_) (fun cdv A outer s H vs Q E hr h => ?_)
  · obtain ⟨x, b, rfl, _⟩ := h
    rfl
  · obtain ⟨x, b, rfl, hx, k⟩ := h
    obtain ⟨a, dx, d, rfl, ha, ⟨vo, vf, va, hd, h1, h2, h3⟩, ho⟩ := hx
    refine ⟨_, (pss_one (ps_ret (pe_dget (hu_of hr) (pe_fld (pv 0) rfl) pe_str (fun _ _ => rfl)))), ?_⟩
    exact ⟨_, rfl, a, CB, dx, _, _, rfl, ha, K.cl, K.nS, rfl, d, _, rfl, DGet.k (k := .inr "told") hd, k _ h1⟩
theorem ok_p_factor (F : Fun Z.K "factor" "Book.factor" s_Book_factor f fd) (K : BkC Z CB) : Z.ok CX0 1 f fd ["self"] (spProp C CB (fun b v H => Sh C H v b.factor)) := by
  refine F.ok sc_Book_factor (fun vs H Q E h => ?_) (fun cdv A outer s H vs Q E hr h => ?_)
  · obtain ⟨x, b, rfl, _⟩ := h
    rfl
  · obtain ⟨x, b, rfl, hx, k⟩ := h
    obtain ⟨a, dx, d, rfl, ha, ⟨vo, vf, va, hd, h1, h2, h3⟩, ho⟩ := hx
    refine ⟨_, (pss_one (ps_ret (pe_dget (hu_of hr) (pe_fld (pv 0) rfl) pe_str (fun _ _ => rfl)))), ?_⟩
    exact ⟨_, rfl, a, CB, dx, _, _, rfl, ha, K.cl, K.nS, rfl, d, _, rfl, DGet.k (k := .inr "factor") hd, k _ h2⟩
theorem ok_p_equal (F : Fun Z.K "equal" "Book.equal" s_Book_equal f fd) (K : BkC Z CB) : Z.ok CX0 1 f fd ["self"] (spProp C CB (fun b v H => v = .bl b.equal)) := by
  refine F.ok sc_Book_equal (fun vs H Q E h => ?_) (fun cdv A outer s H vs Q E hr h => ?_)
  · obtain ⟨x, b, rfl, _⟩ := h
    rfl
  · obtain ⟨x, b, rfl, hx, k⟩ := h
    obtain ⟨a, dx, d, rfl, ha, ⟨vo, vf, va, hd, h1, h2, h3⟩, ho⟩ := hx
    refine ⟨_, (pss_one (ps_ret (pe_dget (hu_of hr) (pe_fld (pv 0) rfl) pe_str (fun _ _ => rfl)))), ?_⟩
    exact ⟨_, rfl, a, CB, dx, _, _, rfl, ha, K.cl, K.nS, rfl, d, _, rfl, DGet.k (k := .inr "equal") hd, k _ rfl⟩
theorem ok_p_sliding (F : Fun Z.K "sliding" "Book.sliding" s_Book_sliding f fd) (K : BkC Z CB) : Z.ok CX0 1 f fd ["self"] (spProp C CB (fun b v H => v = .bl b.sliding)) := by
  refine F.ok sc_Book_sliding (fun vs H Q E h => ?_) (fun cdv A outer s H vs Q E hr h => ?_)
  · obtain ⟨x, b, rfl, _⟩ := h
    rfl
  · obtain ⟨x, b, rfl, hx, k⟩ := h
    obtain ⟨a, dx, d, rfl, ha, ⟨vo, vf, va, hd, h1, h2, h3⟩, ho⟩ := hx
    refine ⟨_, (pss_one (ps_ret (pe_dget (hu_of hr) (pe_fld (pv 0) rfl) pe_str (fun _ _ => rfl)))), ?_⟩
    exact ⟨_, rfl, a, CB, dx, _, _, rfl, ha, K.cl, K.nS, rfl, d, _, rfl, DGet.k (k := .inr "sliding") hd, k _ rfl⟩
theorem ok_p_after (F : Fun Z.K "after" "Book.after" s_Book_after f fd) (K : BkC Z CB) : Z.ok CX0 1 f fd ["self"] (spProp C CB (fun b v H => AfV C H v b.after)) := by
  refine F.ok sc_Book_after (fun vs H Q E h => ?_) (fun cdv A outer s H vs Q E hr h => ?_)
  · obtain ⟨x, b, rfl, _⟩ := h
    rfl
  · obtain ⟨x, b, rfl, hx, k⟩ := h
    obtain ⟨a, dx, d, rfl, ha, ⟨vo, vf, va, hd, h1, h2, h3⟩, ho⟩ := hx
    refine ⟨_, (pss_one (ps_ret (pe_dget (hu_of hr) (pe_fld (pv 0) rfl) pe_str (fun _ _ => rfl)))), ?_⟩
    exact ⟨_, rfl, a, CB, dx, _, _, rfl, ha, K.cl, K.nS, rfl, d, _, rfl, DGet.k (k := .inr "after") hd, k _ h3⟩
theorem ok_p_keep (F : Fun Z.K "keep" "Book.keep" s_Book_keep f fd) (K : BkC Z CB) : Z.ok CX0 1 f fd ["self"] (spProp C CB (fun b v H => v = .bl b.keep)) := by
  refine F.ok sc_Book_keep (fun vs H Q E h => ?_) (fun cdv A outer s H vs Q E hr h => ?_)
  · obtain ⟨x, b, rfl, _⟩ := h
    rfl
  · obtain ⟨x, b, rfl, hx, k⟩ := h
    obtain ⟨a, dx, d, rfl, ha, ⟨vo, vf, va, hd, h1, h2, h3⟩, ho⟩ := hx
    refine ⟨_, (pss_one (ps_ret (pe_dget (hu_of hr) (pe_fld (pv 0) rfl) pe_str (fun _ _ => rfl)))), ?_⟩
    exact ⟨_, rfl, a, CB, dx, _, _, rfl, ha, K.cl, K.nS, rfl, d, _, rfl, DGet.k (k := .inr "keep") hd, k _ rfl⟩
end
end Ps

/-! Books: made by calls, changed. -/
namespace Ps
open PySem PySem.Spec PyProof.Rows PySem.W L2

def bkPs : List Str := ["self", "tries", "told", "factor", "equal", "sliding", "after", "keep"]
def bkKs : List Str := ["factor", "equal", "sliding", "after", "keep"]
/-- a class made by positional values and keywords -/
def CalCK (Z : Cz) (CX : CXT) (k : Nat) (C : Addr) (x : Str) (ps : List Str) (n : Nat) (ks : List Str) (sp : Sp) : Prop := ∃ f fd g, Z.ok CX k f fd ps sp ∧ Mk Z.K C f ∧ Z.mg x = some (.ref C) ∧ KBn Z.K fd ps (n + 1) ks g (fun vs zs => vs ++ zs)
section
variable {Z : Cz} {X : Cx} {CX : CXT} {k n : Nat} {C : Addr} {ps ks : List Str} {sp : Sp} {E : XK} {x : Str} {p pos : Pos} {e : Expr} {es : List Expr} {kws : List Keyword} {t tk : TA}
theorem pe_calCK (c : CalCK Z CX k C x ps n ks sp) (hr : Room (k + 1) X.A) (hg : Gl X x) (hx : Passes CX X E) (ha : PA X (e :: es) t) (hkw : PK X kws tk) (z : InZ Z X := by exact ⟨rfl, rfl, rfl, rfl, rfl⟩)
    (hall : (backToKw pos (keywordEach kws X.env)).all (·.1.isSome) = true := by rfl) (hks : (backToKw pos (keywordEach kws X.env)).filterMap (·.1) = ks := by rfl) (hdb : (x == ("__debug__" : Str)) = false := by decide)
    (he : starEach (e :: es) X.env = (false, eval e X.env) :: starEach es X.env := by rfl) (hpl : ((backTo pos (starEach (e :: es) X.env)).any (·.1) || (backToKw pos (keywordEach kws X.env)).any (·.1.isNone)) = false := by rfl) :
    PE X (.Call (.Name x p) (e :: es) kws pos) (tMakeK C n ks.length sp (fun vs zs => vs ++ zs) E t tk) := by
  obtain ⟨f, fd, g, G, M, h2, hb⟩ := c
  have F := z.ok G
  rw [← z.K] at M hb
  exact pe_makeK M F hr hg (by rw [z.mg]; exact h2) hb hx ha hkw hall hks hdb he hpl
end
/-- a new book -/
theorem mk_book {C CB x dx : Addr} {H : Hp} {Q2 : VK} {E : XK} {vo vf va : V} {b : Bk} (hx : H x = none) (hdx : H dx = none) (hne : dx ≠ x) (ha : BkArg C H vo vf va b) (k : ∀ H', Same H H' → BkAt C CB H' (.ref x) b → Q2 .non H') :
    spBook C CB [.ref x, trV b.tries, vo, vf, .bl b.equal, .bl b.sliding, va, .bl b.keep] (upd (upd H dx (.own x)) x (.ins CB dx [])) Q2 E := by
  have e0 : Same H (upd (upd H dx (.own x)) x (.ins CB dx [])) := fun c o h => by rw [upd_ne (ne_of_none h hx), upd_ne (ne_of_none h hdx)]; exact h
  refine ⟨x, dx, vo, vf, va, b, rfl, upd_same, ha.mono e0, fun d H' hk h1 h2 => k H' (fun c o h => hk c (ne_of_none h hx) o (e0 c o h)) ⟨x, dx, d, rfl, h1, h2, ha.ok⟩⟩
abbrev CBook (Z : Cz) (C CB : Addr) : Prop := CalC Z CX0 10 CB "Book" bkPs [.int 1, .bl false, .bl false, .str "ever", .bl true] (spBook C CB)
abbrev CBookK (Z : Cz) (C CB : Addr) : Prop := CalCK Z CX0 10 CB "Book" bkPs 2 bkKs (spBook C CB)
def bkOf (t : Option Int) (q : Int × Int) : Bk := ⟨t, q, (1, 1), false, false, .ever, true⟩
theorem sz_one : Sz 100 (1, 1) := ⟨by decide, by decide, by decide⟩
theorem bkOf_arg {C : Addr} {H : Hp} {t : Option Int} {v : V} {q : Int × Int} (ht : ∀ i, t = some i → 0 ≤ i ∧ i ≤ 6) (hv : Nb C H v q) (hl : Lw q) (hz : Sz 100 q) (hp : 0 < q.1) : BkArg C H v (.int 1) (.str "ever") (bkOf t q) :=
  ⟨⟨ht, hl, hz, hp, Lw.int 1, sz_one, by show (0 : Int) ≤ 1; decide, trivial⟩, hv, .inr ⟨1, rfl, rfl⟩, rfl⟩
def spOwn (C CB : Addr) (t : Option Int) : Sp := fun vs H Q _ => vs = [] ∧ ∀ v H', Same H H' → BkAt C CB H' v (bkOf t (1, 1)) → Q v H'
def spFive (C CB : Addr) : Sp := fun vs H Q _ => ∃ v q, vs = [v] ∧ Nb C H v q ∧ Lw q ∧ Sz 100 q ∧ 0 < q.1 ∧ ∀ v' H', Same H H' → BkAt C CB H' v' (bkOf (some 5) q) → Q v' H'
/-- behind a lock -/
theorem lock_same {H H' : Hp} {d : Addr} {u : HO} {od : Obj} (hd : H d = some u) (e : Same (upd H d (.frz od u)) H') : Same H (upd H' d u) := fun c o hc => by
  by_cases hcd : c = d
  · subst hcd
    rw [upd_same, ← hd]
    exact hc
  · rw [upd_ne hcd]
    exact e _ _ (by rw [upd_ne hcd]; exact hc)
/-- the book b with the settings kvs put otherwise: c -/
def spChg (C CB : Addr) : Sp := fun vs H Q _ => ∃ (a dx ds d : Addr) (kvs : List (Key × V)) (b c : Bk) (vo vf va wo wf wa : V), vs = [.ref a, .ref d] ∧ H a = some (.ins CB dx [("settings", .ref ds)]) ∧ H ds = some (.dK (stL (trV b.tries) vo vf (.bl b.equal) (.bl b.sliding) va (.bl b.keep))) ∧
  H d = some (.dK kvs) ∧ kvs.length ≤ 10 ∧ (∀ kv ∈ kvs, ∃ x ∈ stF, kv.1 = Sum.inr x) ∧
  mergeK (stL (trV b.tries) vo vf (.bl b.equal) (.bl b.sliding) va (.bl b.keep)) kvs = stL (trV c.tries) wo wf (.bl c.equal) (.bl c.sliding) wa (.bl c.keep) ∧ BkArg C H wo wf wa c ∧ ∀ v H', Same H H' → BkAt C CB H' v c → Q v H'
theorem in_stF {x : Str} (h : x ∈ stF) : inV (.str x) (stF.map V.str) = true := by
  simp only [stF, List.mem_cons, List.not_mem_nil, or_false] at h
  rcases h with rfl | rfl | rfl | rfl | rfl | rfl | rfl <;> decide +kernel
section
variable {Z : Cz} {f C CB : Addr} {fd : FuncData}
theorem ok_changed (F : Fun Z.K "changed" "Book.changed" s_Book_changed f fd) (B : BkT Z) (K : BkC Z CB) (c : CBookK Z C CB) (ks : List Str) (hnd : ks.Nodup)
    (hb : ∀ (kV doc pm : Value) (an : Option Addr) (cdv ct : Value) (u : Value) (ws : List Value), ws.length = ks.length → bindArgs (PySem.W.fnOf "changed" "Book.changed" (defArgs s_Book_changed) (defBody s_Book_changed) (defScope s_Book_changed) .none kV doc pm an cdv ct) ⟨[u], ks.zip ws⟩ =
      ((alloc ({ cls := .type "dict", data := .dict #[] } : Obj) : Sem Addr) >>= fun d => (forIn (ks.zip ws) PUnit.unit fun x _ => do nsSet d x.1 x.2; pure (ForInStep.yield PUnit.unit)) >>= fun _ => pure [(("self" : Str), u), (("settings" : Str), Value.ref d)])) :
    FnKw Z.P Z.w Z.K Z.mg Z.base CX0 13 f ks (fun v zs H Q E => ks.length ≤ 100 ∧ ∀ d, H d = none → spChg C CB [v, .ref d] (upd H d (.dK (kwK ks zs))) Q E) := by
  obtain ⟨oc, od, kV, doc, pm, an, cdv, ct, osl, rfl, lk, hcd⟩ := F.ex
  refine fn_kw (N := ["self", "settings", "field", "now"]) lk hcd sc_Book_changed StX.cxUp_none hnd (fun u ws hl => hb kV doc pm an cdv ct u ws hl) (fun A outer s H vs Q E hr h => ?_)
  obtain ⟨a, dx, ds, d, kvs, b, c', vo, vf, va, wo, wf, wa, rfl, ha, hds, hd, hl, hkv, hm, hg, k⟩ := h
  obtain ⟨aF, gF, sF⟩ := B.fields
  refine ⟨_, PSs.nox (pss_cons (ps_if (pt_not (pt_val (pe_callB (cr_all rfl) (by rfl) B.all (by decide +kernel) (pa_cons (pe_lock (pe_lc (own := [("field", 2)]) (g := gName 2) (tt := tYes) (by rfl) sc_Book_changed.nd (pi_keys (pv 1)) (blkOk_by (own := [("field", 2)]) (N := ["self", "settings", "field", "now"]) (sc := defScope s_Book_changed) (by decide +kernel)) (fun _ _ _ _ _ => (pg_name (i := 2) sc_Book_changed.nd rfl (Or.inl rfl))) (fun _ _ _ _ _ => pts_nil) (fun _ _ _ _ _ => (pe_cmpR (show OpR _ _ (rIn Z.K false) from op_in_seq) (pv 2) (pe_glob (v := .ref aF) rfl gF rfl) (by rfl))))) pa_nil))))
      (pss_one ps_never)
      pss_nil)
      (pss_cons (ps_set (i := 3) sc_Book_changed.nd rfl (Or.inl rfl) (pe_dispM2 (pe_fld (pv 0) rfl) (pv 1)))
      (pss_one (ps_ret (pe_calCK c (hr.mono (by decide)) (by rfl) pass0 (pa_cons (pe_dget (hu_of hr) (pv 3) pe_str (fun _ _ => rfl)) (pa_cons (pe_dget (hu_of hr) (pv 3) pe_str (fun _ _ => rfl)) pa_nil)) (pk_cons (pe_dget (hu_of hr) (pv 3) pe_str (fun _ _ => rfl)) (pk_cons (pe_dget (hu_of hr) (pv 3) pe_str (fun _ _ => rfl)) (pk_cons (pe_dget (hu_of hr) (pv 3) pe_str (fun _ _ => rfl)) (pk_cons (pe_dget (hu_of hr) (pv 3) pe_str (fun _ _ => rfl)) (pk_cons (pe_dget (hu_of hr) (pv 3) pe_str (fun _ _ => rfl)) pk_nil)))))))))), ?_⟩
  refine ⟨d, _, hd, trivial, fun od => ?_⟩
  refine ⟨_, rfl, d, od, rfl, .inl ⟨kvs, upd_same, fun D hD => ?_⟩⟩
  have hdD : d ≠ D := ne_of_none upd_same hD
  refine lc_it (walk_keys (d := d) (o := od) (kvs := kvs)) (fun i H' => H' D = some (.lst (List.replicate i (.bl true))) ∧ Same (upd H d (.frz od (.dK kvs))) H') ⟨upd_same, Same.upd hD⟩ (fun i H' _ ⟨_, e⟩ => e _ _ upd_same) ?_ ?_
  · rintro i x H1 H2 hi ⟨hD1, e1⟩ ⟨rfl, k0, v0, hk0, rfl⟩
    obtain ⟨z, hz, hkz⟩ := hkv _ (List.mem_of_getElem? hk0)
    have hkz : k0 = Sum.inr z := hkz
    subst hkz
    refine ⟨rfl, ?_⟩
    refine ⟨_, rfl, aF, _, rfl, .inr (sF _), rfl, rfl, ?_⟩
    refine ⟨_, hD1, ?_, ?_, ?_⟩
    · rw [List.length_replicate]; exact small1000' (by omega)
    · rw [upd_same, List.replicate_succ']
      have := in_stF hz
      show some (HO.lst (_ ++ [V.bl (inV (.str z) (stF.map V.str))])) = _
      rw [this]
    · intro c o hc
      rw [upd_ne (ne_of_none hc hD)]
      exact e1 _ _ hc
  rintro H1 ⟨hD1, e1⟩
  have e2 : Same H (upd H1 d (.dK kvs)) := lock_same hd e1
  refine ⟨e1 _ _ upd_same, D, List.replicate kvs.length true, rfl, ?_, ?_⟩
  · have : (upd H1 d (.dK kvs)) D = some (.lst (List.replicate kvs.length (.bl true))) := by rw [upd_ne hdD.symm]; exact hD1
    exact SqL.of (by rw [this, List.map_replicate])
  generalize (upd H1 d (.dK kvs)) = H2 at e2
  refine ⟨_, rfl, ?_⟩
  rw [show (List.replicate kvs.length true).all id = true by simp]
  refine iteF ?_
  intro p hp
  refine ⟨_, rfl, a, CB, dx, _, _, rfl, Same.upd hp _ _ (e2 _ _ ha), K.cl, K.nS, rfl, ds, _, rfl, .inl (Same.upd hp _ _ (e2 _ _ hds)), upd_same, ?_, (by show 7 ≤ 100; decide), ?_⟩
  · exact (ne_of_none (e2 _ _ hds) hp).symm
  have hpd : p ≠ d := (ne_of_none (e2 _ _ hd) hp).symm
  refine ⟨_, rfl, d, kvs, rfl, .inl (by rw [upd_ne hpd.symm, upd_ne hpd.symm]; exact e2 _ _ hd), upd_same, hpd, by omega, ?_⟩
  have hm' : mergeK (mergeK [] (stL (trV b.tries) vo vf (.bl b.equal) (.bl b.sliding) va (.bl b.keep))) kvs = stL (trV c'.tries) wo wf (.bl c'.equal) (.bl c'.sliding) wa (.bl c'.keep) := hm
  rw [hm']
  have e3 : ∀ o1 o2 o3, Same H2 (upd (upd (upd H2 p o1) p o2) p o3) := fun o1 o2 o3 c o h => by
    rw [upd_ne (ne_of_none h hp), upd_ne (ne_of_none h hp), upd_ne (ne_of_none h hp)]
    exact h
  have hp3 : ∀ o1 o2 o3, (upd (upd (upd H2 p o1) p o2) p o3) p = some o3 := fun _ _ _ => upd_same
  generalize hH3 : (upd (upd (upd H2 p (.dK [])) p (.dK _)) p (.dK (stL (trV c'.tries) wo wf (.bl c'.equal) (.bl c'.sliding) wa (.bl c'.keep)))) = H3
  have e03 : Same H H3 := by rw [← hH3]; exact e2.trans (e3 _ _ _)
  have hn : H3 p = some (.dK (stL (trV c'.tries) wo wf (.bl c'.equal) (.bl c'.sliding) wa (.bl c'.keep))) := by rw [← hH3]; exact hp3 _ _ _
  refine ⟨_, rfl, p, _, rfl, DGet.k (k := .inr "tries") hn, _, rfl, p, _, rfl, DGet.k (k := .inr "told") hn, ?_⟩
  refine ⟨_, rfl, p, _, rfl, DGet.k (k := .inr "factor") hn, _, rfl, p, _, rfl, DGet.k (k := .inr "equal") hn, _, rfl, p, _, rfl, DGet.k (k := .inr "sliding") hn, _, rfl, p, _, rfl, DGet.k (k := .inr "after") hn, _, rfl, p, _, rfl, DGet.k (k := .inr "keep") hn, rfl, rfl, ?_⟩
  intro x dx2 hx hdx hne
  exact mk_book (b := c') hx hdx hne (hg.mono e03) fun H' e h => ⟨rfl, k _ H' (e03.trans e) h⟩
end
end Ps

/-! The laws' own plans of books: drawn, made. -/
namespace Ps
open PySem PySem.Spec PyProof.Rows PySem.W L2

inductive PAf where
  | ever
  | doubt (q : Int × Int)
  | look (i : Int)
  deriving DecidableEq
structure Pl where
  tries : Option Int
  told : Int
  factor : Int × Int
  equal : Bool
  sliding : Bool
  after : PAf
  keep : Bool
  deriving DecidableEq
def factors : List (Int × Int) := [(1, 1), (0, 1), (2, 1), (1, 2)]
def doubts : List (Int × Int) := [(1, 1), (2, 1), (1, 2), (10, 1), (3, 2)]
def tolds : List Int := [6, 9, 12, 18, 3, 15, 24]
def PAfOk : PAf → Prop
  | .ever => True
  | .doubt q => q ∈ doubts
  | .look i => 1 ≤ i ∧ i ≤ 9
structure PlOk (p : Pl) : Prop where
  tr : ∀ i, p.tries = some i → 0 ≤ i ∧ i ≤ 6
  tl : p.told ∈ tolds
  fc : p.factor ∈ factors
  af : PAfOk p.after
def afOf : PAf → Af
  | .ever => .ever
  | .doubt q => .doubt (low q.1 q.2)
  | .look i => .look i
def bkOfPl (p : Pl) : Bk := ⟨p.tries, low p.told 6, low p.factor.1 p.factor.2, p.equal, p.sliding, afOf p.after, p.keep⟩
theorem sz_small {a b : Int} (hb : b ≠ 0) (h1 : a.natAbs < 100) (h2 : b.natAbs < 100) : Sz 100 (low a b) := Sz.of_low hb (lt_up (m := 10) (by omega) (by decide)) (lt_up (m := 10) (by omega) (by decide))
theorem doubt_ok {q : Int × Int} (h : q ∈ doubts) : q.2 ≠ 0 ∧ q.1.natAbs < 100 ∧ q.2.natAbs < 100 ∧ 0 < (low q.1 q.2).1 := by
  simp only [doubts, List.mem_cons, List.not_mem_nil, or_false] at h
  rcases h with rfl | rfl | rfl | rfl | rfl <;> decide +kernel
theorem factor_ok {q : Int × Int} (h : q ∈ factors) : q.2 ≠ 0 ∧ q.1.natAbs < 100 ∧ q.2.natAbs < 100 ∧ 0 ≤ (low q.1 q.2).1 := by
  simp only [factors, List.mem_cons, List.not_mem_nil, or_false] at h
  rcases h with rfl | rfl | rfl | rfl <;> decide +kernel
theorem told_ok {n : Int} (h : n ∈ tolds) : n.natAbs < 100 ∧ 0 < (low n 6).1 := by
  simp only [tolds, List.mem_cons, List.not_mem_nil, or_false] at h
  rcases h with rfl | rfl | rfl | rfl | rfl | rfl | rfl <;> decide +kernel
theorem PAfOk.of {a : PAf} (h : PAfOk a) : AfOk (afOf a) := by
  cases a with
  | ever => trivial
  | doubt q =>
    obtain ⟨h1, h2, h3, h4⟩ := doubt_ok h
    exact ⟨Lw.of h1, sz_small h1 h2 h3, h4⟩
  | look i => exact h
theorem PlOk.bk {p : Pl} (h : PlOk p) : BkOk (bkOfPl p) := by
  obtain ⟨f1, f2, f3, f4⟩ := factor_ok h.fc
  obtain ⟨t1, t2⟩ := told_ok h.tl
  exact ⟨h.tr, Lw.of (by decide), sz_small (by decide) t1 (by decide), t2, Lw.of f1, sz_small f1 f2 f3, f4, h.af.of⟩
def PAfV (H : Hp) (v : V) : PAf → Prop
  | .ever => ∃ t, v = .ref t ∧ H t = some (.tup [.str "ever"])
  | .doubt q => ∃ t u, v = .ref t ∧ H t = some (.tup [.str "doubt", .ref u]) ∧ H u = some (.tup [.int q.1, .int q.2])
  | .look i => ∃ t, v = .ref t ∧ H t = some (.tup [.str "look", .int i])
/-- tuples stay -/
def Tp (H H' : Hp) : Prop := ∀ a xs, H a = some (.tup xs) → H' a = some (.tup xs)
theorem Tp.of {H H' : Hp} (e : Same H H') : Tp H H' := fun a xs h => e a _ h
theorem Tp.trans {H H1 H2 : Hp} (e : Tp H H1) (e' : Tp H1 H2) : Tp H H2 := fun a xs h => e' a xs (e a xs h)
theorem Tp.keep {H H' : Hp} {p : Addr} {o : HO} (k : Keep p H H') (hp : H p = some o) (hn : ∀ xs, o ≠ .tup xs) : Tp H H' := fun a xs h => k a (fun z => by rw [z, hp] at h; exact hn _ (Option.some.inj h)) _ h
theorem Tp.upd {H : Hp} {p : Addr} {o u : HO} (hp : H p = some o) (hn : ∀ xs, o ≠ .tup xs) : Tp H (upd H p u) := fun a xs h => by rw [upd_ne (fun z => by rw [z, hp] at h; exact hn _ (Option.some.inj h))]; exact h
theorem PAfV.mono {H H' : Hp} {v : V} {a : PAf} (e : Tp H H') (h : PAfV H v a) : PAfV H' v a := by
  cases a with
  | ever => obtain ⟨t, h1, h2⟩ := h; exact ⟨t, h1, e _ _ h2⟩
  | doubt q => obtain ⟨t, u, h1, h2, h3⟩ := h; exact ⟨t, u, h1, e _ _ h2, e _ _ h3⟩
  | look i => obtain ⟨t, h1, h2⟩ := h; exact ⟨t, h1, e _ _ h2⟩
/-- the plan's dict -/
def plL (p : Pl) (vf va : V) : List (Key × V) := stL (trV p.tries) (.int p.told) vf (.bl p.equal) (.bl p.sliding) va (.bl p.keep)
def FcV (H : Hp) (v : V) (q : Int × Int) : Prop := ∃ t, v = .ref t ∧ H t = some (.tup [.int q.1, .int q.2])
theorem FcV.mono {H H' : Hp} {v : V} {q : Int × Int} (e : Tp H H') (h : FcV H v q) : FcV H' v q := by obtain ⟨t, h1, h2⟩ := h; exact ⟨t, h1, e _ _ h2⟩
structure PlAt (H : Hp) (a : Addr) (p : Pl) (vf va : V) : Prop where
  d : H a = some (.dK (plL p vf va))
  f : FcV H vf p.factor
  a : PAfV H va p.after
theorem PlAt.mono {H H' : Hp} {a : Addr} {p : Pl} {vf va : V} (e : Same H H') (h : PlAt H a p vf va) : PlAt H' a p vf va := ⟨e _ _ h.d, h.f.mono (Tp.of e), h.a.mono (Tp.of e)⟩
theorem PlAt.keep {H H' : Hp} {a x : Addr} {p : Pl} {vf va : V} {o : List V} (k : Keep x H H') (hx : H x = some (.lst o)) (h : PlAt H a p vf va) : PlAt H' a p vf va :=
  ⟨k a (fun z => by have := h.d; rw [z, hx] at this; cases this) _ h.d, h.f.mono (Tp.keep k hx (fun _ z => nomatch z)), h.a.mono (Tp.keep k hx (fun _ z => nomatch z))⟩
def spLAfter : Sp := fun vs H Q _ => ∃ (p q : Addr) (ms : List Int) (i : Nat), vs = [.ref p] ∧ Pool H p q ms i ∧ i ≤ 1000 ∧ ∀ v H' a j, Keep p H H' → Pool H' p q ms j → j ≤ i + 2 → PAfV H' v a → PAfOk a → Q v H'
theorem pick5 {H : Hp} {t1 t2 t3 t4 t5 : Addr} {r : Int} (r0 : 0 ≤ r) (r1 : r < 5) (h1 : H t1 = some (.tup [.int 1, .int 1])) (h2 : H t2 = some (.tup [.int 2, .int 1])) (h3 : H t3 = some (.tup [.int 1, .int 2])) (h4 : H t4 = some (.tup [.int 10, .int 1])) (h5 : H t5 = some (.tup [.int 3, .int 2])) :
    ∃ u q, atI [V.ref t1, V.ref t2, V.ref t3, V.ref t4, V.ref t5] r = some (.ref u) ∧ H u = some (.tup [.int q.1, .int q.2]) ∧ q ∈ doubts := by
  rcases (show r = 0 ∨ r = 1 ∨ r = 2 ∨ r = 3 ∨ r = 4 by omega) with rfl | rfl | rfl | rfl | rfl
  · exact ⟨t1, (1, 1), rfl, h1, by decide⟩
  · exact ⟨t2, (2, 1), rfl, h2, by decide⟩
  · exact ⟨t3, (1, 2), rfl, h3, by decide⟩
  · exact ⟨t4, (10, 1), rfl, h4, by decide⟩
  · exact ⟨t5, (3, 2), rfl, h5, by decide⟩
theorem pick4 {H : Hp} {t1 t2 t3 t4 : Addr} {r : Int} (r0 : 0 ≤ r) (r1 : r < 4) (h1 : H t1 = some (.tup [.int 1, .int 1])) (h2 : H t2 = some (.tup [.int 0, .int 1])) (h3 : H t3 = some (.tup [.int 2, .int 1])) (h4 : H t4 = some (.tup [.int 1, .int 2])) :
    ∃ u q, atI [V.ref t1, V.ref t2, V.ref t3, V.ref t4] r = some (.ref u) ∧ H u = some (.tup [.int q.1, .int q.2]) ∧ q ∈ factors := by
  rcases (show r = 0 ∨ r = 1 ∨ r = 2 ∨ r = 3 by omega) with rfl | rfl | rfl | rfl
  · exact ⟨t1, (1, 1), rfl, h1, by decide⟩
  · exact ⟨t2, (0, 1), rfl, h2, by decide⟩
  · exact ⟨t3, (2, 1), rfl, h3, by decide⟩
  · exact ⟨t4, (1, 2), rfl, h4, by decide⟩
theorem pick_told {r : Int} (r0 : 0 ≤ r) (r1 : r < 7) : ∃ n, atI [V.int 6, .int 9, .int 12, .int 18, .int 3, .int 15, .int 24] r = some (.int n) ∧ n ∈ tolds := by
  rcases (show r = 0 ∨ r = 1 ∨ r = 2 ∨ r = 3 ∨ r = 4 ∨ r = 5 ∨ r = 6 by omega) with rfl | rfl | rfl | rfl | rfl | rfl | rfl <;> exact ⟨_, rfl, by decide⟩
theorem pick_try {r : Int} (r0 : 0 ≤ r) (r1 : r < 7) : ∃ o : Option Int, atI [V.non, .int 0, .int 1, .int 2, .int 3, .int 2, .int 3] r = some (trV o) ∧ ∀ i, o = some i → 0 ≤ i ∧ i ≤ 3 := by
  rcases (show r = 0 ∨ r = 1 ∨ r = 2 ∨ r = 3 ∨ r = 4 ∨ r = 5 ∨ r = 6 by omega) with rfl | rfl | rfl | rfl | rfl | rfl | rfl
  · exact ⟨none, rfl, by intro i z; cases z⟩
  · exact ⟨some 0, rfl, by intro i z; cases z; decide⟩
  · exact ⟨some 1, rfl, by intro i z; cases z; decide⟩
  · exact ⟨some 2, rfl, by intro i z; cases z; decide⟩
  · exact ⟨some 3, rfl, by intro i z; cases z; decide⟩
  · exact ⟨some 2, rfl, by intro i z; cases z; decide⟩
  · exact ⟨some 3, rfl, by intro i z; cases z; decide⟩
theorem Pool.mono {H H' : Hp} {p q : Addr} {ms : List Int} {i : Nat} (e : Same H H') (h : Pool H p q ms i) : Pool H' p q ms i := ⟨e _ _ h.at_, e _ _ h.nums, h.len, h.few⟩
section
variable {Z : Cz} {f C CB : Addr} {fd : FuncData}
abbrev CDraw (Z : Cz) : Prop := Cal Z CX0 1 "_law_draw" ["_law_pool_here", "_law_many"] [] spDraw
theorem ok_lafter (F : Fun Z.K "_law_after" "_law_after" s_lw_after f fd) (c_lw_draw : CDraw Z) : Z.ok CX0 2 f fd ["_law_pool_here"] spLAfter := by
  refine F.ok sc_lw_after (fun vs H Q E h => ?_) (fun cdv A outer s H vs Q E hr h => ?_)
  · obtain ⟨p, q, ms, i, rfl, _⟩ := h
    rfl
  · obtain ⟨p, q, ms, i, rfl, P, hi, k⟩ := h
    refine ⟨_, (pss_cons (ps_set (i := 1) sc_lw_after.nd rfl (Or.inl rfl) (pe_cal c_lw_draw (hr.mono (by decide)) (by rfl) pass0 (pa_cons (pv 0) (pa_cons pe_int pa_nil))))
      (pss_cons (ps_if (pt_cmpR op_lt (pv 1) pe_int (nomark _))
      (pss_one (ps_ret (pe_tup (pa_cons pe_str pa_nil))))
      pss_nil)
      (pss_cons (ps_if (pt_cmpR op_lt (pv 1) pe_int (nomark _))
      (pss_one (ps_ret (pe_tup (pa_cons pe_str (pa_cons (pe_ix ix_list (pe_lst (pa_cons (pe_tup (pa_cons pe_int (pa_cons pe_int pa_nil))) (pa_cons (pe_tup (pa_cons pe_int (pa_cons pe_int pa_nil))) (pa_cons (pe_tup (pa_cons pe_int (pa_cons pe_int pa_nil))) (pa_cons (pe_tup (pa_cons pe_int (pa_cons pe_int pa_nil))) (pa_cons (pe_tup (pa_cons pe_int (pa_cons pe_int pa_nil))) pa_nil)))))) (pe_cal c_lw_draw (hr.mono (by decide)) (by rfl) pass0 (pa_cons (pv 0) (pa_cons pe_int pa_nil))) (fun _ _ => rfl)) pa_nil)))))
      pss_nil)
      (pss_one (ps_ret (pe_tup (pa_cons pe_str (pa_cons (pe_op op_add pe_int (pe_cal c_lw_draw (hr.mono (by decide)) (by rfl) pass0 (pa_cons (pv 0) (pa_cons pe_int pa_nil)))) pa_nil)))))))), ?_⟩
    refine ⟨_, rfl, p, q, ms, i, 6, rfl, P, by decide, by omega, fun r H1 r0 r1 e1 P1 => ?_⟩
    have k1 : Keep p H H1 := Keep.of_eq e1
    refine ⟨_, rfl, _, _, rfl, rfl, _, rfl, iteD (fun _ => ?_) (fun _ => ?_)⟩
    · refine ⟨(by show 1 ≤ sizeLine; decide), fun t ht => ?_⟩
      exact k _ _ .ever (i + 1) (k1.trans (Keep.of_same (Same.upd ht))) (P1.mono (Same.upd ht)) (by omega) ⟨t, rfl, upd_same⟩ trivial
    refine ⟨_, rfl, _, _, rfl, rfl, _, rfl, iteD (fun _ => ?_) (fun _ => ?_)⟩
    · refine ⟨(by show 2 ≤ sizeLine; decide), fun t1 h1 => ?_⟩
      refine ⟨(by show 2 ≤ sizeLine; decide), fun t2 h2 => ?_⟩
      refine ⟨(by show 2 ≤ sizeLine; decide), fun t3 h3 => ?_⟩
      refine ⟨(by show 2 ≤ sizeLine; decide), fun t4 h4 => ?_⟩
      refine ⟨(by show 2 ≤ sizeLine; decide), fun t5 h5 => ?_⟩
      refine ⟨(by show 5 ≤ sizeLine; decide), fun L hL => ?_⟩
      have s6 := Same.upd (o := .lst [.ref t1, .ref t2, .ref t3, .ref t4, .ref t5]) hL
      have s5 := (Same.upd (o := .tup [.int 3, .int 2]) h5).trans s6
      have s4 := (Same.upd (o := .tup [.int 10, .int 1]) h4).trans s5
      have s3 := (Same.upd (o := .tup [.int 1, .int 2]) h3).trans s4
      have s2 := (Same.upd (o := .tup [.int 2, .int 1]) h2).trans s3
      have s1 := (Same.upd (o := .tup [.int 1, .int 1]) h1).trans s2
      have g1 := s2 t1 _ upd_same
      have g2 := s3 t2 _ upd_same
      have g3 := s4 t3 _ upd_same
      have g4 := s5 t4 _ upd_same
      have g5 := s6 t5 _ upd_same
      have gL : (upd (upd (upd (upd (upd (upd H1 t1 (.tup [.int 1, .int 1])) t2 (.tup [.int 2, .int 1])) t3 (.tup [.int 1, .int 2])) t4 (.tup [.int 10, .int 1])) t5 (.tup [.int 3, .int 2])) L (.lst [.ref t1, .ref t2, .ref t3, .ref t4, .ref t5])) L = _ := upd_same
      clear s2 s3 s4 s5 s6
      generalize (upd (upd (upd (upd (upd (upd H1 t1 (.tup [.int 1, .int 1])) t2 (.tup [.int 2, .int 1])) t3 (.tup [.int 1, .int 2])) t4 (.tup [.int 10, .int 1])) t5 (.tup [.int 3, .int 2])) L (.lst [.ref t1, .ref t2, .ref t3, .ref t4, .ref t5])) = H2 at *
      have P2 := P1.mono s1
      refine ⟨_, rfl, p, q, ms, i + 1, 5, rfl, P2, by decide, by omega, fun r2 H3 a0 a1 e3 P3 => ?_⟩
      have k3 : Keep p H2 H3 := Keep.of_eq e3
      have tp : Tp H2 H3 := Tp.keep k3 P2.at_ (fun _ z => nomatch z)
      obtain ⟨u, d, hu, hd, hm⟩ := pick5 (H := H3) a0 a1 (tp _ _ g1) (tp _ _ g2) (tp _ _ g3) (tp _ _ g4) (tp _ _ g5)
      have hLp : L ≠ p := fun z => by
        rw [z] at hL
        have := (Same.upd (o := .tup [.int 3, .int 2]) h5) _ _ ((Same.upd (o := .tup [.int 10, .int 1]) h4) _ _ ((Same.upd (o := .tup [.int 1, .int 2]) h3) _ _ ((Same.upd (o := .tup [.int 2, .int 1]) h2) _ _ ((Same.upd (o := .tup [.int 1, .int 1]) h1) _ _ P1.at_))))
        rw [hL] at this
        cases this
      refine ⟨L, _, _, _, rfl, rfl, SqL.of (k3 L hLp _ gL), hu, (by show 2 ≤ sizeLine; decide), fun t ht => ?_⟩
      exact k _ _ (.doubt d) (i + 1 + 1) (((k1.trans (Keep.of_same s1)).trans k3).trans (Keep.of_same (Same.upd ht))) (P3.mono (Same.upd ht)) (by omega) ⟨t, u, rfl, upd_same, Same.upd ht _ _ hd⟩ hm
    · refine ⟨_, rfl, p, q, ms, i + 1, 3, rfl, P1, by decide, by omega, fun r2 H3 a0 a1 e3 P3 => ?_⟩
      refine ⟨_, _, rfl, rfl, (by show 2 ≤ sizeLine; decide), fun t ht => ?_⟩
      exact k _ _ (.look (1 + r2)) (i + 1 + 1) ((k1.trans (Keep.of_eq e3)).trans (Keep.of_same (Same.upd ht))) (P3.mono (Same.upd ht)) (by omega) ⟨t, rfl, upd_same⟩ ⟨by omega, by omega⟩
end
end Ps

/-! The laws' own plans of books: a plan is drawn; a book is made of it. -/
namespace Ps
open PySem PySem.Spec PyProof.Rows PySem.W L2

def spLPlan : Sp := fun vs H Q _ => ∃ (p q : Addr) (ms : List Int) (i : Nat) (m : Int), vs = [.ref p, .int m] ∧ Pool H p q ms i ∧ i ≤ 900 ∧ 0 ≤ m ∧ m ≤ 6 ∧
  ∀ a H' pl vf va j, Keep p H H' → H a = none → Pool H' p q ms j → j ≤ i + 10 → PlAt H' a pl vf va → PlOk pl → Q (.ref a) H'
def spMAfter (C : Addr) : Sp := fun vs H Q _ => ∃ v a, vs = [v] ∧ PAfV H v a ∧ PAfOk a ∧ ∀ w H', Same H H' → AfV C H' w (afOf a) → Q w H'
def spMBook (C CB : Addr) : Sp := fun vs H Q _ => ∃ a pl vf va, vs = [.ref a] ∧ PlAt H a pl vf va ∧ PlOk pl ∧ ∀ v H', Same H H' → BkAt C CB H' v (bkOfPl pl) → Q v H'
section
variable {Z : Cz} {f C CB : Addr} {fd : FuncData}
theorem ok_lplan (F : Fun Z.K "_law_plan" "_law_plan" s_lw_plan f fd) (c_lw_draw : CDraw Z) (c_lw_after : Cal Z CX0 2 "_law_after" ["_law_pool_here"] [] spLAfter) : Z.ok CX0 3 f fd ["_law_pool_here", "_law_most"] spLPlan := by
  refine F.ok sc_lw_plan (fun vs H Q E h => ?_) (fun cdv A outer s H vs Q E hr h => ?_)
  · obtain ⟨p, q, ms, i, m, rfl, _⟩ := h
    rfl
  · obtain ⟨p, q, ms, i, m, rfl, P, hi, m0, m1, k⟩ := h
    refine ⟨_, (pss_cons (ps_set (i := 2) sc_lw_plan.nd rfl (Or.inl rfl) (pe_ix ix_list (pe_lst (pa_cons pe_non (pa_cons pe_int (pa_cons pe_int (pa_cons pe_int (pa_cons pe_int (pa_cons pe_int (pa_cons pe_int pa_nil)))))))) (pe_cal c_lw_draw (hr.mono (by decide)) (by rfl) pass0 (pa_cons (pv 0) (pa_cons pe_int pa_nil))) (fun _ _ => rfl)))
      (C8.pss_cut (ps_if (PW.pt (pw_and (pt_cmpR op_notN (pv 2) pe_non (nomark _)) (pw_and1 (pt_cmpR op_gt (pv 2) (pv 1) (nomark _)))))
      (pss_one (ps_set (i := 2) sc_lw_plan.nd rfl (Or.inl rfl) (pv 1)))
      pss_nil)
      (pss_cons (ps_set (i := 3) sc_lw_plan.nd rfl (Or.inl rfl) (pe_ix ix_list (pe_lst (pa_cons pe_int (pa_cons pe_int (pa_cons pe_int (pa_cons pe_int (pa_cons pe_int (pa_cons pe_int (pa_cons pe_int pa_nil)))))))) (pe_cal c_lw_draw (hr.mono (by decide)) (by rfl) pass0 (pa_cons (pv 0) (pa_cons pe_int pa_nil))) (fun _ _ => rfl)))
      (pss_cons (ps_set (i := 4) sc_lw_plan.nd rfl (Or.inl rfl) (pe_disp (pps_cons pe_str (pv 2) (pps_cons pe_str (pv 3) (pps_cons pe_str (pe_ix ix_list (pe_lst (pa_cons (pe_tup (pa_cons pe_int (pa_cons pe_int pa_nil))) (pa_cons (pe_tup (pa_cons pe_int (pa_cons pe_int pa_nil))) (pa_cons (pe_tup (pa_cons pe_int (pa_cons pe_int pa_nil))) (pa_cons (pe_tup (pa_cons pe_int (pa_cons pe_int pa_nil))) pa_nil))))) (pe_cal c_lw_draw (hr.mono (by decide)) (by rfl) pass0 (pa_cons (pv 0) (pa_cons pe_int pa_nil))) (fun _ _ => rfl)) pps_nil))) (by rfl) (by rfl) (fun z => by cases z) (by decide)))
      (pss_cons (ps_asg (pe_tup (pa_cons (pe_cmpR op_eq (pe_cal c_lw_draw (hr.mono (by decide)) (by rfl) pass0 (pa_cons (pv 0) (pa_cons pe_int pa_nil))) pe_int (nomark _)) (pa_cons (pe_cmpR op_eq (pe_cal c_lw_draw (hr.mono (by decide)) (by rfl) pass0 (pa_cons (pv 0) (pa_cons pe_int pa_nil))) pe_int (nomark _)) pa_nil))) (pg_tup (by rfl) (pgs_cons (pg_sub (pv 4) pe_str (set_dct (hu_of hr))) (pgs_cons (pg_sub (pv 4) pe_str (set_dct (hu_of hr))) pgs_nil))))
      (pss_cons (ps_asg (pe_tup (pa_cons (pe_cal c_lw_after (hr.mono (by decide)) (by rfl) pass0 (pa_cons (pv 0) pa_nil)) (pa_cons (pe_cmpR op_gt (pe_cal c_lw_draw (hr.mono (by decide)) (by rfl) pass0 (pa_cons (pv 0) (pa_cons pe_int pa_nil))) pe_int (nomark _)) pa_nil))) (pg_tup (by rfl) (pgs_cons (pg_sub (pv 4) pe_str (set_dct (hu_of hr))) (pgs_cons (pg_sub (pv 4) pe_str (set_dct (hu_of hr))) pgs_nil))))
      (pss_one (ps_ret (pv 4))))))))), ?_⟩
    -- tries
    refine ⟨(by show 7 ≤ sizeLine; decide), fun L hL => ?_⟩
    have P0 := P.mono (Same.upd (o := .lst [.non, .int 0, .int 1, .int 2, .int 3, .int 2, .int 3]) hL)
    refine ⟨_, rfl, p, q, ms, i, 7, rfl, P0, by decide, by omega, fun r H1 r0 r1 e1 P1 => ?_⟩
    have k1 : Keep p H H1 := (Keep.of_same (Same.upd hL)).trans (Keep.of_eq e1)
    obtain ⟨o, ho, hor⟩ := pick_try r0 r1
    have hLp : L ≠ p := fun z => by rw [z, P.at_] at hL; cases hL
    refine ⟨L, _, _, _, rfl, rfl, SqL.of (by rw [e1 L hLp]; exact upd_same), ho, ?_⟩
    refine ⟨fun σ H' => ∃ o : Option Int, σ = [some (.ref p), some (.int m), some (trV o), none, none] ∧ H' = H1 ∧ ∀ i, o = some i → 0 ≤ i ∧ i ≤ 6, ?_, ?_⟩
    · cases o with
      | none => exact ⟨_, rfl, rfl, _, rfl, iteF ⟨none, rfl, rfl, by intro i z; cases z⟩⟩
      | some t =>
        obtain ⟨t0, t1⟩ := hor t rfl
        refine ⟨_, rfl, rfl, _, rfl, iteT ?_⟩
        refine ⟨_, rfl, _, rfl, _, _, rfl, rfl, _, rfl, iteD (fun h => ?_) (fun h => ?_)⟩
        · exact ⟨_, rfl, some m, rfl, rfl, by intro i z; cases z; exact ⟨m0, m1⟩⟩
        · exact ⟨some t, rfl, rfl, by intro i z; cases z; exact ⟨t0, by omega⟩⟩
    rintro σ H1' ⟨o', rfl, rfl, hor'⟩
    -- told
    refine ⟨(by show 7 ≤ sizeLine; decide), fun L2 hL2 => ?_⟩
    have P1' := P1.mono (Same.upd (o := .lst [.int 6, .int 9, .int 12, .int 18, .int 3, .int 15, .int 24]) hL2)
    refine ⟨_, rfl, p, q, ms, i + 1, 7, rfl, P1', by decide, by omega, fun r2 H2 a0 a1 e2 P2 => ?_⟩
    have k2 : Keep p H H2 := (k1.trans (Keep.of_same (Same.upd hL2))).trans (Keep.of_eq e2)
    obtain ⟨n, hn, hnt⟩ := pick_told a0 a1
    have hL2p : L2 ≠ p := fun z => by rw [z, P1.at_] at hL2; cases hL2
    refine ⟨L2, _, _, _, rfl, rfl, SqL.of (by rw [e2 L2 hL2p]; exact upd_same), hn, ?_⟩
    -- the dict
    intro D hD
    refine ⟨_, rfl, _, rfl, ?_⟩
    refine ⟨(by show 2 ≤ sizeLine; decide), fun t1 h1 => ?_⟩
    refine ⟨(by show 2 ≤ sizeLine; decide), fun t2 h2 => ?_⟩
    refine ⟨(by show 2 ≤ sizeLine; decide), fun t3 h3 => ?_⟩
    refine ⟨(by show 2 ≤ sizeLine; decide), fun t4 h4 => ?_⟩
    refine ⟨(by show 4 ≤ sizeLine; decide), fun L3 hL3 => ?_⟩
    have s6 := Same.upd (o := .lst [.ref t1, .ref t2, .ref t3, .ref t4]) hL3
    have s4 := (Same.upd (o := .tup [.int 1, .int 2]) h4).trans s6
    have s3 := (Same.upd (o := .tup [.int 2, .int 1]) h3).trans s4
    have s2 := (Same.upd (o := .tup [.int 0, .int 1]) h2).trans s3
    have s1 := (Same.upd (o := .tup [.int 1, .int 1]) h1).trans s2
    have g1 := s2 t1 _ upd_same
    have g2 := s3 t2 _ upd_same
    have g3 := s4 t3 _ upd_same
    have g4 := s6 t4 _ upd_same
    have gD := s1 D _ upd_same
    have s0 := (Same.upd (o := .dK []) hD).trans s1
    have gL : (upd (upd (upd (upd (upd (upd H2 D (.dK [])) t1 (.tup [.int 1, .int 1])) t2 (.tup [.int 0, .int 1])) t3 (.tup [.int 2, .int 1])) t4 (.tup [.int 1, .int 2])) L3 (.lst [.ref t1, .ref t2, .ref t3, .ref t4])) L3 = _ := upd_same
    have hL3p : L3 ≠ p := fun z => by
      have z1 := ((Same.upd (o := .tup [.int 1, .int 1]) h1).trans ((Same.upd (o := .tup [.int 0, .int 1]) h2).trans ((Same.upd (o := .tup [.int 2, .int 1]) h3).trans (Same.upd (o := .tup [.int 1, .int 2]) h4)))) _ _ ((Same.upd (o := .dK []) hD) _ _ P2.at_)
      rw [← z, hL3] at z1
      cases z1
    have hDp : D ≠ p := fun z => by rw [z, P2.at_] at hD; cases hD
    clear s1 s2 s3 s4 s6
    generalize (upd (upd (upd (upd (upd (upd H2 D (.dK [])) t1 (.tup [.int 1, .int 1])) t2 (.tup [.int 0, .int 1])) t3 (.tup [.int 2, .int 1])) t4 (.tup [.int 1, .int 2])) L3 (.lst [.ref t1, .ref t2, .ref t3, .ref t4])) = H3 at *
    have P3 := P2.mono s0
    refine ⟨_, rfl, p, q, ms, i + 2, 4, rfl, P3, by decide, by omega, fun r3 H4 b0 b1 e4 P4 => ?_⟩
    have k4' : Keep p H3 H4 := Keep.of_eq e4
    have tp4 : Tp H3 H4 := Tp.keep k4' P3.at_ (fun _ z => nomatch z)
    obtain ⟨u, fc, hu, hfc, hfm⟩ := pick4 (H := H4) b0 b1 (tp4 _ _ g1) (tp4 _ _ g2) (tp4 _ _ g3) (tp4 _ _ g4)
    refine ⟨L3, _, _, _, rfl, rfl, SqL.of (k4' L3 hL3p _ gL), hu, k4' D hDp _ gD, [(.inr "tries", trV o'), (.inr "told", .int n), (.inr "factor", .ref u)], rfl, (by show 3 ≤ 15; decide), ?_⟩
    have k4 : Keep p H H4 := (k2.trans (Keep.of_same s0)).trans k4'
    have gD4 := k4' D hDp _ gD
    have hD0 : H D = none := by
      cases hh : H D with
      | none => rfl
      | some o =>
        have := k2 D hDp _ hh
        rw [hD] at this
        cases this
    have hDq : D ≠ q := fun z => by rw [z, P4.nums] at gD4; cases gD4
    show tSeq _ _ _ _ (upd H4 D (.dK [(.inr "tries", trV o'), (.inr "told", .int n), (.inr "factor", .ref u)]))
    have P5 : Pool (upd H4 D (.dK [(.inr "tries", trV o'), (.inr "told", .int n), (.inr "factor", .ref u)])) p q ms (i + 2 + 1) := P4.put hDp hDq
    have hD5 : (upd H4 D (.dK [(.inr "tries", trV o'), (.inr "told", .int n), (.inr "factor", .ref u)])) D = some (.dK [(.inr "tries", trV o'), (.inr "told", .int n), (.inr "factor", .ref u)]) := upd_same
    have k5 : Keep p H (upd H4 D (.dK [(.inr "tries", trV o'), (.inr "told", .int n), (.inr "factor", .ref u)])) := k4.put hD0
    have f5 : FcV (upd H4 D (.dK [(.inr "tries", trV o'), (.inr "told", .int n), (.inr "factor", .ref u)])) (.ref u) fc := ⟨u, rfl, Tp.upd gD4 (fun _ z => nomatch z) _ _ hfc⟩
    generalize (upd H4 D (.dK [(.inr "tries", trV o'), (.inr "told", .int n), (.inr "factor", .ref u)])) = H5 at *
    -- equal, sliding
    refine ⟨_, rfl, p, q, ms, i + 2 + 1, 2, rfl, P5, by decide, by omega, fun r6 H6 c0 c1 e6 P6 => ?_⟩
    refine ⟨rfl, _, rfl, p, q, ms, i + 2 + 1 + 1, 2, rfl, P6, by decide, by omega, fun r7 H7 d0 d1 e7 P7 => ?_⟩
    refine ⟨rfl, (by show 2 ≤ sizeLine; decide), fun T hT => ?_⟩
    have k7' : Keep p H5 H7 := (Keep.of_eq e6).trans (Keep.of_eq e7)
    have hD7 := k7' D hDp _ hD5
    have f7 := f5.mono (Tp.keep k7' P5.at_ (fun _ z => nomatch z))
    generalize decide (V.int r6 = V.int 1) = be
    generalize decide (V.int r7 = V.int 1) = bs
    have eT := Same.upd (o := .tup [.bl be, .bl bs]) hT
    refine ⟨T, _, rfl, SqT.of upd_same, rfl, _, _, rfl, _, rfl, D, _, rfl, DPut.k (k := .inr "equal") (eT _ _ hD7) (by show 3 < sizeLine; decide), ?_⟩
    refine ⟨_, _, rfl, _, rfl, D, _, rfl, DPut.k (k := .inr "sliding") upd_same (by show 4 < sizeLine; decide), rfl, ?_⟩
    have hTD : T ≠ D := (ne_of_none hD7 hT).symm
    have hD8 : (upd (upd (upd H7 T (.tup [.bl be, .bl bs])) D (.dK (putK [(.inr "tries", trV o'), (.inr "told", .int n), (.inr "factor", .ref u)] (.inr "equal") (.bl be)))) D (.dK (putK (putK [(.inr "tries", trV o'), (.inr "told", .int n), (.inr "factor", .ref u)] (.inr "equal") (.bl be)) (.inr "sliding") (.bl bs)))) D = some (.dK [(.inr "tries", trV o'), (.inr "told", .int n), (.inr "factor", .ref u), (.inr "equal", .bl be), (.inr "sliding", .bl bs)]) := upd_same
    have k8' : Keep p H7 (upd (upd (upd H7 T (.tup [.bl be, .bl bs])) D (.dK (putK [(.inr "tries", trV o'), (.inr "told", .int n), (.inr "factor", .ref u)] (.inr "equal") (.bl be)))) D (.dK (putK (putK [(.inr "tries", trV o'), (.inr "told", .int n), (.inr "factor", .ref u)] (.inr "equal") (.bl be)) (.inr "sliding") (.bl bs)))) ∨ True := .inr trivial
    have k8 : Keep p H (upd (upd (upd H7 T (.tup [.bl be, .bl bs])) D (.dK (putK [(.inr "tries", trV o'), (.inr "told", .int n), (.inr "factor", .ref u)] (.inr "equal") (.bl be)))) D (.dK (putK (putK [(.inr "tries", trV o'), (.inr "told", .int n), (.inr "factor", .ref u)] (.inr "equal") (.bl be)) (.inr "sliding") (.bl bs)))) := (((k5.trans k7').trans (Keep.of_same eT)).put hD0).put hD0
    have tp8 : Tp H7 (upd (upd (upd H7 T (.tup [.bl be, .bl bs])) D (.dK (putK [(.inr "tries", trV o'), (.inr "told", .int n), (.inr "factor", .ref u)] (.inr "equal") (.bl be)))) D (.dK (putK (putK [(.inr "tries", trV o'), (.inr "told", .int n), (.inr "factor", .ref u)] (.inr "equal") (.bl be)) (.inr "sliding") (.bl bs)))) :=
      ((Tp.of eT).trans (Tp.upd (eT _ _ hD7) (fun _ z => nomatch z))).trans (Tp.upd upd_same (fun _ z => nomatch z))
    have P8 : Pool (upd (upd (upd H7 T (.tup [.bl be, .bl bs])) D (.dK (putK [(.inr "tries", trV o'), (.inr "told", .int n), (.inr "factor", .ref u)] (.inr "equal") (.bl be)))) D (.dK (putK (putK [(.inr "tries", trV o'), (.inr "told", .int n), (.inr "factor", .ref u)] (.inr "equal") (.bl be)) (.inr "sliding") (.bl bs)))) p q ms (i + 2 + 1 + 1 + 1) := ((P7.mono eT).put hDp hDq).put hDp hDq
    generalize (upd (upd (upd H7 T (.tup [.bl be, .bl bs])) D (.dK (putK [(.inr "tries", trV o'), (.inr "told", .int n), (.inr "factor", .ref u)] (.inr "equal") (.bl be)))) D (.dK (putK (putK [(.inr "tries", trV o'), (.inr "told", .int n), (.inr "factor", .ref u)] (.inr "equal") (.bl be)) (.inr "sliding") (.bl bs)))) = H8 at hD8 k8 tp8 P8
    clear k8'
    have f8 := f7.mono tp8
    -- after, keep
    refine ⟨_, rfl, p, q, ms, i + 2 + 1 + 1 + 1, rfl, P8, by omega, fun va H9 pa j k9' P9 hj hpa hpo => ?_⟩
    refine ⟨_, rfl, p, q, ms, j, 3, rfl, P9, by decide, by omega, fun r10 H10 g0 g1' e10 P10 => ?_⟩
    refine ⟨_, _, rfl, rfl, (by show 2 ≤ sizeLine; decide), fun T2 hT2 => ?_⟩
    have k10' : Keep p H9 H10 := Keep.of_eq e10
    have tp9 : Tp H8 H9 := Tp.keep k9' P8.at_ (fun _ z => nomatch z)
    have tp10 : Tp H9 H10 := Tp.keep k10' P9.at_ (fun _ z => nomatch z)
    have hD10 := k10' D hDp _ (k9' D hDp _ hD8)
    have eT2 := Same.upd (o := .tup [va, .bl (decide (r10 > 0))]) hT2
    refine ⟨T2, _, rfl, SqT.of upd_same, rfl, _, _, rfl, _, rfl, D, _, rfl, DPut.k (k := .inr "after") (eT2 _ _ hD10) (by show 5 < sizeLine; decide), ?_⟩
    refine ⟨_, _, rfl, _, rfl, D, _, rfl, DPut.k (k := .inr "keep") upd_same (by show 6 < sizeLine; decide), rfl, ?_⟩
    refine ⟨_, rfl, ?_⟩
    have tp11 := (tp10.trans (Tp.of eT2)).trans ((Tp.upd (u := .dK (putK [(.inr "tries", trV o'), (.inr "told", .int n), (.inr "factor", .ref u), (.inr "equal", .bl be), (.inr "sliding", .bl bs)] (.inr "after") va)) (eT2 _ _ hD10) (fun _ z => nomatch z)).trans (Tp.upd (u := .dK (putK (putK [(.inr "tries", trV o'), (.inr "told", .int n), (.inr "factor", .ref u), (.inr "equal", .bl be), (.inr "sliding", .bl bs)] (.inr "after") va) (.inr "keep") (.bl (decide (r10 > 0))))) upd_same (fun _ z => nomatch z)))
    exact k D _ ⟨o', n, fc, be, bs, pa, decide (r10 > 0)⟩ (.ref u) va (j + 1) (((((k8.trans k9').trans k10').trans (Keep.of_same eT2)).put hD0).put hD0) hD0 (((P10.mono eT2).put hDp hDq).put hDp hDq) (by omega) ⟨upd_same, f8.mono (tp9.trans tp11), hpa.mono tp11⟩ ⟨hor', hnt, hfm, hpo⟩
end
end Ps

/-! The laws' own plans of books: a book is made of a plan. -/
namespace Ps
open PySem PySem.Spec PyProof.Rows PySem.W L2
section
variable {Z : Cz} {f C CB : Addr} {fd : FuncData}
theorem ok_mafter (F : Fun Z.K "_law_made_after" "_law_made_after" s_lw_made_after f fd) (M : ShM Z C) : Z.ok CX0 4 f fd ["_law_ending"] (spMAfter C) := by
  refine F.ok sc_lw_made_after (fun vs H Q E h => ?_) (fun cdv A outer s H vs Q E hr h => ?_)
  · obtain ⟨v, a, rfl, _⟩ := h
    rfl
  · obtain ⟨v, a, rfl, hv, ho, k⟩ := h
    refine ⟨_, (pss_cons (ps_if (pt_cmpR op_eq (pe_ix ix_tup (pv 0) pe_int (fun _ _ => rfl)) pe_str (nomark _))
      (pss_one (ps_ret pe_str))
      pss_nil)
      (pss_cons (ps_if (pt_cmpR op_eq (pe_ix ix_tup (pv 0) pe_int (fun _ _ => rfl)) pe_str (nomark _))
      (pss_one (ps_ret (pe_tup (pa_cons pe_str (pa_cons (pe_ix ix_tup (pv 0) pe_int (fun _ _ => rfl)) pa_nil)))))
      pss_nil)
      (pss_one (ps_ret (pe_tup (pa_cons pe_str (pa_cons (pe_calC M.new (hr.mono (by decide)) (by rfl) pass0 (pa_cons (pe_ix ix_tup (pe_ix ix_tup (pv 0) pe_int (fun _ _ => rfl)) pe_int (fun _ _ => rfl)) (pa_cons (pe_ix ix_tup (pe_ix ix_tup (pv 0) pe_int (fun _ _ => rfl)) pe_int (fun _ _ => rfl)) pa_nil))) pa_nil))))))), ?_⟩
    cases a with
    | ever =>
      obtain ⟨t, rfl, ht⟩ := hv
      refine ⟨_, rfl, t, _, _, _, rfl, rfl, SqT.of ht, rfl, rfl, _, rfl, iteT ?_⟩
      exact k _ H (Same.refl _) rfl
    | look i =>
      obtain ⟨t, rfl, ht⟩ := hv
      refine ⟨_, rfl, t, _, _, _, rfl, rfl, SqT.of ht, rfl, rfl, _, rfl, iteF ?_⟩
      refine ⟨_, rfl, t, _, _, _, rfl, rfl, SqT.of ht, rfl, rfl, _, rfl, iteT ?_⟩
      refine ⟨_, rfl, t, _, _, _, rfl, rfl, SqT.of ht, rfl, (by show 2 ≤ sizeLine; decide), fun u hu => ?_⟩
      exact k _ _ (Same.upd hu) ⟨u, rfl, upd_same⟩
    | doubt q =>
      obtain ⟨t, u, rfl, ht, hu⟩ := hv
      obtain ⟨d1, d2, d3, d4⟩ := doubt_ok ho
      refine ⟨_, rfl, t, _, _, _, rfl, rfl, SqT.of ht, rfl, rfl, _, rfl, iteF ?_⟩
      refine ⟨_, rfl, t, _, _, _, rfl, rfl, SqT.of ht, rfl, rfl, _, rfl, iteF ?_⟩
      refine ⟨_, rfl, t, _, _, _, rfl, rfl, SqT.of ht, rfl, u, _, _, _, rfl, rfl, SqT.of hu, rfl, ?_⟩
      refine ⟨_, rfl, t, _, _, _, rfl, rfl, SqT.of ht, rfl, u, _, _, _, rfl, rfl, SqT.of hu, rfl, ?_⟩
      intro xa dx hxa hdx hne
      refine mk_shI d1 (lt_up (m := 10) (by omega) (by decide)) hxa hdx hne fun H1 e1 z1 => ⟨rfl, (by show 2 ≤ sizeLine; decide), fun w hw => ?_⟩
      exact k _ _ (e1.trans (Same.upd hw)) ⟨w, _, rfl, upd_same, z1.mono (Same.upd hw)⟩
abbrev CMAfter (Z : Cz) (C : Addr) : Prop := Cal Z CX0 4 "_law_made_after" ["_law_ending"] [] (spMAfter C)
theorem pl_get {H : Hp} {a : Addr} {p : Pl} {vf va : V} (h : PlAt H a p vf va) (x : Str) {v : V} (hv : valV (plL p vf va) (.inr x) = some v) : DGet H a (.str x) (some v) := by rw [← hv]; exact DGet.k (k := .inr x) h.d
theorem ok_mbook (F : Fun Z.K "_law_made_book" "_law_made_book" s_lw_made_book f fd) (M : ShM Z C) (c : CBookK Z C CB) (c_lw_made_after : CMAfter Z C) : Z.ok CX0 12 f fd ["_law_plan_here"] (spMBook C CB) := by
  refine F.ok sc_lw_made_book (fun vs H Q E h => ?_) (fun cdv A outer s H vs Q E hr h => ?_)
  · obtain ⟨a, pl, vf, va, rfl, _⟩ := h
    rfl
  · obtain ⟨a, pl, vf, va, rfl, hp, ho, k⟩ := h
    refine ⟨_, (pss_cons (ps_set (i := 1) sc_lw_made_book.nd rfl (Or.inl rfl) (pe_calC M.new (hr.mono (by decide)) (by rfl) pass0 (pa_cons (pe_ix ix_tup (pe_dget (hu_of hr) (pv 0) pe_str (fun _ _ => rfl)) pe_int (fun _ _ => rfl)) (pa_cons (pe_ix ix_tup (pe_dget (hu_of hr) (pv 0) pe_str (fun _ _ => rfl)) pe_int (fun _ _ => rfl)) pa_nil))))
      (pss_cons (ps_set (i := 2) sc_lw_made_book.nd rfl (Or.inl rfl) (pe_cal c_lw_made_after (hr.mono (by decide)) (by rfl) pass0 (pa_cons (pe_dget (hu_of hr) (pv 0) pe_str (fun _ _ => rfl)) pa_nil)))
      (pss_one (ps_ret (pe_calCK c hr (by rfl) pass0 (pa_cons (pe_dget (hu_of hr) (pv 0) pe_str (fun _ _ => rfl)) (pa_cons (pe_calC M.new (hr.mono (by decide)) (by rfl) pass0 (pa_cons (pe_dget (hu_of hr) (pv 0) pe_str (fun _ _ => rfl)) (pa_cons pe_int pa_nil))) pa_nil)) (pk_cons (pv 1) (pk_cons (pe_dget (hu_of hr) (pv 0) pe_str (fun _ _ => rfl)) (pk_cons (pe_dget (hu_of hr) (pv 0) pe_str (fun _ _ => rfl)) (pk_cons (pv 2) (pk_cons (pe_dget (hu_of hr) (pv 0) pe_str (fun _ _ => rfl)) pk_nil)))))))))), ?_⟩
    obtain ⟨t, rfl, ht⟩ := hp.f
    obtain ⟨f1, f2, f3, f4⟩ := factor_ok ho.fc
    obtain ⟨g1, g2⟩ := told_ok ho.tl
    refine ⟨_, rfl, a, _, rfl, pl_get hp "factor" rfl, t, _, _, _, rfl, rfl, SqT.of ht, rfl, ?_⟩
    refine ⟨_, rfl, a, _, rfl, pl_get hp "factor" rfl, t, _, _, _, rfl, rfl, SqT.of ht, rfl, ?_⟩
    intro x1 d1 hx1 hd1 hn1
    refine mk_shI f1 (lt_up (m := 10) (by omega) (by decide)) hx1 hd1 hn1 fun H1 e1 z1 => ⟨rfl, ?_⟩
    have hp1 := hp.mono e1
    refine ⟨_, rfl, a, _, rfl, pl_get hp1 "after" rfl, va, _, rfl, hp1.a, ho.af, fun w H2 e2 hw => ?_⟩
    have hp2 := hp1.mono e2
    have tail : ∀ {Q1 : VK}, (∀ v H', Same H2 H' → BkAt C CB H' v (bkOfPl pl) → Q1 v H') → (tMakeK CB 2 bkKs.length (spBook C CB) (fun vs zs => vs ++ zs) E0 (tCons (tDGet (tVar 0) (tC (.str "tries"))) (tCons (tMake C (spShInit C) [] E0 (tCons (tDGet (tVar 0) (tC (.str "told"))) (tCons (tC (.int 6)) tNil))) tNil)) (tCons (tVar 1) (tCons (tDGet (tVar 0) (tC (.str "equal"))) (tCons (tDGet (tVar 0) (tC (.str "sliding"))) (tCons (tVar 2) (tCons (tDGet (tVar 0) (tC (.str "keep"))) tNil)))))) [some (.ref a), some (.ref x1), some w] H2 Q1 := by
      intro Q1 kk
      refine ⟨_, rfl, a, _, rfl, pl_get hp2 "tries" rfl, _, rfl, a, _, rfl, pl_get hp2 "told" rfl, ?_⟩
      intro x3 d3 hx3 hd3 hn3
      refine mk_shI (by decide) (by decide +kernel) hx3 hd3 hn3 fun H3 e3 z3 => ⟨rfl, ?_⟩
      have hp3 := hp2.mono e3
      refine ⟨_, rfl, _, rfl, a, _, rfl, pl_get hp3 "equal" rfl, _, rfl, a, _, rfl, pl_get hp3 "sliding" rfl, _, rfl, _, rfl, a, _, rfl, pl_get hp3 "keep" rfl, rfl, rfl, ?_⟩
      intro x4 d4 hx4 hd4 hn4
      exact mk_book (b := bkOfPl pl) hx4 hd4 hn4 ⟨ho.bk, .inl z3, .inl (z1.mono (e2.trans e3)), (hw.mono e3).toA⟩ fun H' e h => ⟨rfl, kk _ H' (e3.trans e) h⟩
    first
      | exact tail fun v H' e h => k v H' ((e1.trans e2).trans e) h
      | exact ⟨_, _, rfl, tail fun v H' e h => k v H' ((e1.trans e2).trans e) h⟩
abbrev CMBook (Z : Cz) (C CB : Addr) : Prop := Cal Z CX0 12 "_law_made_book" ["_law_plan_here"] [] (spMBook C CB)
end
end Ps

/-! In a try's body: static methods, methods by keywords. -/
namespace Ps
open PySem PySem.Spec PyProof.Rows PySem.W L2

def tSMethS (C : Addr) (sp : Sp) (E : L2.St → XK) (ta : TE) (t : TA) : TE := fun σ H Q => ta σ H fun x H1 => x = .ref C ∧ t σ H1 fun vs H2 => sp vs H2 Q (E σ)
section
variable {Z : Cz} {X : Cx} {CX : CXT} {k : Nat} {C : Addr} {sp : Sp} {E : L2.St → XK} {o e : Expr} {es : List Expr} {m : Str} {pos apos : Pos} {ta : TE} {t : TA} {pl : Sem Bool}
/-- C.m(e, ..), a static method, in a try's body -/
theorem pe_calTS (c : CalT Z CX k C m sp) (hr : Room k X.A) (hx : ∀ σ, PassesAt CX X σ (E σ)) (he : PE X o ta) (ha : PA X (e :: es) t) (z : InZ Z X := by exact ⟨rfl, rfl, rfl, rfl, rfl⟩)
    (hst : starEach (e :: es) X.env = (false, eval e X.env) :: starEach es X.env := by rfl) (hpl : (backTo pos (starEach es X.env)).any (·.1) = false := by rfl)
    (ht : eval (.Call (.Attribute o m apos) (e :: es) [] pos) X.env = (do
      let ov ← eval o X.env
      standAt apos.atName
      let (f, first) ← holding [ov] (getMethod ov m pl)
      callWith pos f first (backTo pos (starEach (e :: es) X.env)) (backToKw pos (keywordEach [] X.env))) := by rfl) :
    PE X (.Call (.Attribute o m apos) (e :: es) [] pos) (tSMethS C sp E ta t) := by
  obtain ⟨p, g, F, r⟩ := c
  obtain ⟨e1, e2, e3, e4, e5⟩ := z
  have F' : FnR X.prog X.w X.K X.mg X.base CX k g sp := by rw [e1, e2, e3, e4, e5]; exact F
  rw [← e3] at r
  refine ⟨fun pins s σ H Q I h => ?_⟩
  refine methodCall_KW (pl := pl) (thn (he.run pins s σ H _ I h) fun u s1 ⟨x, H1, I1, rx, ex, q⟩ => ?_) ht
  subst ex
  obtain rfl : u = Value.ref C := rx
  refine getsm_ok I1 r fun s2 I2 => ?_
  refine callWith_K (h₀ := X.base) I2.ok.mod.kin r.kp (thn (ha.run pos _ s2 σ H1 _ I2 q) fun us s3 ⟨vs, H2, I3, rv, q2⟩ => ⟨I3.kIn, ?_⟩) hst hpl
  refine wpAny_call (codeAny_mono (F' X.A X.stack s3 H2 us vs Q (E σ) hr I3.env0 rv q2) fun r s' hq => ?_)
  cases r with
  | error e => exact hx σ _ _ _ _ _ I3 hq
  | ok fl =>
    cases fl with
    | ret u => exact I3.after hq
    | next => exact False.elim hq
    | brk => exact False.elim hq
    | cont => exact False.elim hq
end
section
variable {Z : Cz} {X : Cx} {CX : CXT} {k : Nat} {C : Addr} {ks : List Str} {sp : V → List V → Hp → VK → XK → Prop} {E : L2.St → XK} {m : Str} {pos apos : Pos} {o : Expr} {ta : TE} {kws : List Keyword} {tk : TA}
def tMethKS (C : Addr) (m : Str) (n : Nat) (sp : V → List V → Hp → VK → XK → Prop) (E : L2.St → XK) (ta : TE) (tk : TA) : TE := fun σ H Q => ta σ H fun x H1 => ∃ a dx fs, x = .ref a ∧ H1 a = some (.ins C dx fs) ∧ fs.lookup m = none ∧ tk σ H1 fun zs H2 => zs.length = n ∧ sp x zs H2 Q (E σ)
theorem pe_calKS {pl : Sem Bool} (c : CalK Z CX k C m ks sp) (hr : Room k X.A) (hx : ∀ σ, PassesAt CX X σ (E σ)) (he : PE X o ta) (hkw : PK X kws tk) (z : InZ Z X := by exact ⟨rfl, rfl, rfl, rfl, rfl⟩)
    (hall : (backToKw pos (keywordEach kws X.env)).all (·.1.isSome) = true := by rfl) (hks : (backToKw pos (keywordEach kws X.env)).filterMap (·.1) = ks := by rfl)
    (hpl : ((backTo pos (starEach [] X.env)).any (·.1) || (backToKw pos (keywordEach kws X.env)).any (·.1.isNone)) = false := by rfl)
    (ht : eval (.Call (.Attribute o m apos) [] kws pos) X.env = (do
      let ov ← eval o X.env
      standAt apos.atName
      let (f, first) ← holding [ov] (getMethod ov m pl)
      callWith pos f first (backTo pos (starEach [] X.env)) (backToKw pos (keywordEach kws X.env))) := by rfl) :
    PE X (.Call (.Attribute o m apos) [] kws pos) (tMethKS C m ks.length sp E ta tk) := by
  obtain ⟨f, G, hm, cl⟩ := c
  obtain ⟨e1, e2, e3, e4, e5⟩ := z
  rw [← e1, ← e2, ← e3, ← e4, ← e5] at G
  rw [← e3] at hm cl
  refine ⟨fun pins s σ H Q I h => ?_⟩
  refine PySem.W.methodCall_KW (pl := pl) (thn (he.run pins s σ H _ I h) fun u s1 ⟨x, H1, I1, rx, a, dx, fs, ex, ea, l, q⟩ => ?_) ht
  subst ex
  obtain rfl : u = Value.ref a := rx
  refine getmeth_ok I1 ea cl hm l ?_
  refine PySem.W.callWith_KW0 (first := [.ref a]) (h₀ := X.base) I.ok.mod.kin hm.kp hall ?_ hpl
  refine thn (hkw.run pos pins s1 σ H1 _ I1 q) fun ws s2 ⟨zs, H2, I2, rz, hl, q2⟩ => ⟨I2.kIn, ?_⟩
  rw [hks]
  refine wpAny_call (codeAny_mono (G X.A X.stack s2 H2 (.ref a) ws (.ref a) zs Q (E σ) hr I2.env0 rfl rz (rz.length.symm.trans hl) q2) fun r s' hq => ?_)
  cases r with
  | error e => exact hx σ pins H2 s2 e s' I2 hq
  | ok fl =>
    cases fl with
    | ret u => exact I2.after hq
    | next => exact False.elim hq
    | brk => exact False.elim hq
    | cont => exact False.elim hq
end
theorem fl_field : FlOk "field" := ⟨fun _ _ _ _ _ _ _ _ _ _ _ _ _ => rfl, fun _ _ => rfl, fun _ _ _ _ _ _ => rfl, fun _ _ _ _ _ _ => rfl, fun _ _ _ _ => rfl, fun _ _ _ _ => rfl, by decide⟩
theorem TyX.mono {K : Frag} {H H' : Hp} {v : V} {t : Value} (e : Same H H') (h : TyX K H v t) : TyX K H' v t := by
  cases h with
  | base h =>
    refine .base ?_
    cases h with
    | non => exact .non
    | bl x => exact .bl x
    | int i => exact .int i
    | str x => exact .str x
    | flt x => exact .flt x
    | lst h => exact .lst (e _ _ h)
    | frz h => exact .frz (e _ _ h)
    | tup h => exact .tup (e _ _ h)
    | dK h => exact .dK (e _ _ h)
    | dT h => exact .dT (e _ _ h)
    | ins h cl ha hn htk hm => exact .ins (e _ _ h) cl ha hn htk hm
  | byt b => exact .byt b
  | set h => exact .set (e _ _ h)
  | kList h c => exact .kList h c
  | kTuple h c => exact .kTuple h c
  | kDict h c => exact .kDict h c
  | fTuple h => exact .fTuple (e _ _ h)
  | fDict h => exact .fDict (e _ _ h)
theorem NotNum.mono {K : Frag} {C : Addr} {H H' : Hp} {v : V} (e : Same H H') (h : NotNum K C H v) : NotNum K C H' v := by
  obtain ⟨t, ty, r⟩ := h
  exact ⟨t, TyX.mono e ty, r⟩
end Ps

set_option maxHeartbeats 8000000
/-! Books refused. -/
namespace Ps
open PySem PySem.Spec PyProof.Rows PySem.W L2

section
variable {K : Frag} {C : Addr} {H H' : Hp} {v : V} {b : Bool}
theorem NotI.mono (e : Same H H') (h : NotI K H v) : NotI K H' v := by
  obtain ⟨t, ty, r⟩ := h
  exact ⟨t, TyX.mono e ty, r⟩
theorem AbB.mono (e : Same H H') (h : AbB K C H v b) : AbB K C H' v b := by
  rcases h with ⟨q, h1, h2, h3⟩ | ⟨h1, h2⟩
  · exact .inl ⟨q, h1.mono e, h2, h3⟩
  · exact .inr ⟨h1.mono e, h2⟩
theorem AfB.mono (e : Same H H') (h : AfB K C H v b) : AfB K C H' v b := by
  cases h with
  | str z => exact .str z
  | odd ty k1 k2 => exact .odd (TyX.mono e ty) k1 k2
  | len h hl => exact .len (e _ _ h) hl
  | first h ty k => exact .first (e _ _ h) (TyX.mono e ty) k
  | doubt h hw => exact .doubt (e _ _ h) (hw.mono e)
  | look h => exact .look (e _ _ h)
  | lookN h hw => exact .lookN (e _ _ h) (hw.mono e)
theorem StB.mono {x : Str} (e : Same H H') (h : StB K C H x v b) : StB K C H' x v b := by
  cases h with
  | triesN => exact .triesN
  | triesI i => exact .triesI i
  | triesX h hn => exact .triesX (h.mono e) hn
  | told h => exact .told (h.mono e)
  | factor h hz => exact .factor (h.mono e) hz
  | factorN h => exact .factorN (h.mono e)
  | after h => exact .after (h.mono e)
  | flag hx c => exact .flag hx c
  | flagN hx ty k => exact .flagN hx (TyX.mono e ty) k
end
/-- x is the first setting of kvs that is wrong -/
def Wr (K : Frag) (C : Addr) (H : Hp) (kvs : List (Key × V)) (x : Str) : Prop := ∃ i : Nat, stF[i]? = some x ∧ (∀ (j : Nat) (y : Str), j < i → stF[j]? = some y → ∃ v, valV kvs (.inr y) = some v ∧ StB K C H y v true) ∧ ∃ v, valV kvs (.inr x) = some v ∧ StB K C H x v false
theorem Wr.mono {K : Frag} {C : Addr} {H H' : Hp} {kvs : List (Key × V)} {x : Str} (e : Same H H') (h : Wr K C H kvs x) : Wr K C H' kvs x := by
  obtain ⟨i, hi, ht, v, hv, hs⟩ := h
  refine ⟨i, hi, fun j y hj hy => ?_, v, hv, hs.mono e⟩
  obtain ⟨u, hu, hs'⟩ := ht j y hj hy
  exact ⟨u, hu, hs'.mono e⟩
def spBookX (K : Frag) (C CB CX : Addr) : Sp := fun vs H _ E => ∃ p dx t o f e s a k x, vs = [.ref p, t, o, f, e, s, a, k] ∧ H p = some (.ins CB dx []) ∧ Wr K C H (stL t o f e s a k) x ∧ Rz CX "field" (.str x) H E
abbrev TBook (Z : Cz) (CX P fX : Addr) : Prop := ExT Z.K Z.mg "BadBook" "field" "BadBook.__init__" CX P fX
section
variable {Z : Cz} {f C CB CX P fX : Addr} {fd : FuncData}
theorem ok_BookX {kws : List (Str × V)} (F : FunD Z.K "__init__" "Book.__init__" (defArgs s_Book_dd_init) (defBody s_Book_dd_init) (defScope s_Book_dd_init) [] kws f fd) (B : BkT Z) (TB : TBook Z CX P fX) (c_is_setting : CSetting Z C) (c_as_kept : CKept Z C) :
    Z.ok (CXN Z) 10 f fd ["self", "tries", "told", "factor", "equal", "sliding", "after", "keep"] (spBookX Z.K C CB CX) := by
  refine FunD.ok F sc_Book_dd_init (fun vs H Q E h => ?_) (fun cdv A outer s H vs Q E hr h => ?_)
  · obtain ⟨p, dx, t, o, f, e, s, a, k, x, rfl, _⟩ := h
    rfl
  · obtain ⟨x, dx, t, o, f, e, s, a, k, fl, rfl, hx, hw, hz⟩ := h
    obtain ⟨aF, gF, sF⟩ := B.fields
    refine ⟨_, (pss_cons (ps_set (i := 8) sc_Book_dd_init.nd rfl (Or.inr rfl) (pe_disp (pps_cons pe_str (pv 1) (pps_cons pe_str (pv 2) (pps_cons pe_str (pv 3) (pps_cons pe_str (pv 4) (pps_cons pe_str (pv 5) pps_nil))))) (by rfl) (by rfl) (fun z => by cases z) (by decide)))
      (pss_cons (ps_set (i := 8) sc_Book_dd_init.nd rfl (Or.inr rfl) (pe_dispM (pv 8) (pps_cons pe_str (pv 6) (pps_cons pe_str (pv 7) pps_nil)) (by rfl) (by rfl) (fun z => by cases z) (by decide)))
      (pss_cons (ps_for (passes_of rfl) rfl (pi_tup (pe_glob (v := .ref aF) rfl gF rfl)) (pg_name (i := 9) sc_Book_dd_init.nd rfl (Or.inl rfl))
      (pss_one (ps_if (pt_not (pt_val (pe_cal c_is_setting (hr.mono (by decide)) (by rfl) pass0 (pa_cons (pv 9) (pa_cons (pe_dget (hu_of hr) (pv 8) (pv 9) (fun _ _ => rfl)) pa_nil)))))
        (pss_one (ps_raiseX TB fl_field hr (L2N.takes_of rfl rfl rfl rfl) (pa_cons (pv 9) pa_nil) rfl))
        pss_nil)))
      (pss_one (ps_fld (pv 0) (pe_dc (own := [("field", 9)]) (g := gName 9) (tt := tYes) (by rfl) sc_Book_dd_init.nd (pi_tup (pe_glob (v := .ref aF) rfl gF rfl)) (blkOk_by (own := [("field", 9)]) (N := ["self", "tries", "told", "factor", "equal", "sliding", "after", "keep", "given", "field"]) (sc := defScope s_Book_dd_init) (by decide +kernel)) (fun _ _ _ _ _ => (pg_name (i := 9) sc_Book_dd_init.nd rfl (Or.inl rfl))) (fun _ _ _ _ _ => pts_nil) (fun _ _ _ _ _ => (pv 9)) (fun _ _ _ _ _ => (pe_cal c_as_kept (hr.mono (by decide)) (by rfl) pass0 (pa_cons (pv 9) (pa_cons (pe_dget (hu_of hr) (pv 8) (pv 9) (fun _ _ => rfl)) pa_nil))))) rfl))))), ?_⟩
    intro p hp
    refine ⟨_, rfl, _, rfl, _, rfl, _, rfl, _, rfl, upd_same, [(.inr "tries", t), (.inr "told", o), (.inr "factor", f), (.inr "equal", e), (.inr "sliding", s)], rfl, (by show 5 ≤ 15; decide), ?_⟩
    have e1 : Same H (upd (upd H p (.dK [])) p (.dK (mergeK [] [(.inr "tries", t), (.inr "told", o), (.inr "factor", f), (.inr "equal", e), (.inr "sliding", s)]))) := fun c u h => by
      rw [upd_ne (ne_of_none h hp), upd_ne (ne_of_none h hp)]; exact h
    have hp1 : (upd (upd H p (.dK [])) p (.dK (mergeK [] [(.inr "tries", t), (.inr "told", o), (.inr "factor", f), (.inr "equal", e), (.inr "sliding", s)]))) p = some (.dK [(.inr "tries", t), (.inr "told", o), (.inr "factor", f), (.inr "equal", e), (.inr "sliding", s)]) := upd_same
    generalize (upd (upd H p (.dK [])) p (.dK (mergeK [] [(.inr "tries", t), (.inr "told", o), (.inr "factor", f), (.inr "equal", e), (.inr "sliding", s)]))) = H1 at e1 hp1
    intro p2 hp2
    have hne : p2 ≠ p := (ne_of_none hp1 hp2).symm
    refine ⟨_, rfl, p, _, rfl, .inl (by rw [upd_ne hne.symm]; exact hp1), upd_same, hne, (by show 5 ≤ 100; decide), fun q hq => ?_⟩
    have hq2 : p2 ≠ q := ne_of_none upd_same hq
    refine ⟨_, rfl, _, rfl, upd_same, (by rw [upd_ne hq2]; exact upd_same), hq2, [(.inr "after", a), (.inr "keep", k)], rfl, (by show 2 ≤ 15; decide), ?_⟩
    have hqH1 : H1 q = none := by
      rw [upd_ne hq2.symm, upd_ne hq2.symm] at hq
      exact hq
    show tSeq _ _ _ _ (upd (upd (upd (upd (upd H1 p2 (.dK [])) p2 (.dK _)) q (.dK [])) q (.dK _)) p2 (.dK (stL t o f e s a k)))
    have e2 : ∀ o1 o2 o3 o4 o5, Same H1 (upd (upd (upd (upd (upd H1 p2 o1) p2 o2) q o3) q o4) p2 o5) := fun o1 o2 o3 o4 o5 c u h => by
      rw [upd_ne (ne_of_none h hp2), upd_ne (ne_of_none h hqH1), upd_ne (ne_of_none h hqH1), upd_ne (ne_of_none h hp2), upd_ne (ne_of_none h hp2)]
      exact h
    have hp3 : ∀ o1 o2 o3 o4 o5, (upd (upd (upd (upd (upd H1 p2 o1) p2 o2) q o3) q o4) p2 o5) p2 = some o5 := fun _ _ _ _ _ => upd_same
    generalize hH3 : (upd (upd (upd (upd (upd H1 p2 (.dK [])) p2 (.dK _)) q (.dK [])) q (.dK _)) p2 (.dK (stL t o f e s a k))) = H3
    have e3 : Same H H3 := by rw [← hH3]; exact e1.trans (e2 _ _ _ _ _)
    have hg : H3 p2 = some (.dK (stL t o f e s a k)) := by rw [← hH3]; exact hp3 _ _ _ _ _
    clear hH3 hp3 e2
    obtain ⟨i0, hi0, ht0, v0, hv0, hs0⟩ := hw.mono e3
    refine ⟨aF, rfl, ⟨_, sF H3⟩, for_tup (K := Z.K) (a := aF) (xs := stF.map V.str) (fun i σ H' => i ≤ i0 ∧ ∃ u, σ = [some (.ref x), some t, some o, some f, some e, some s, some a, some k, some (.ref p2), u] ∧ Same H3 H') ⟨Nat.zero_le _, _, rfl, Same.refl _⟩ (fun i σ H' _ _ => sF H') ?_ ?_⟩
    · rintro i y σ H4 hy ⟨hle, u, rfl, e4⟩
      rw [List.getElem?_map] at hy
      obtain ⟨z, hz', rfl⟩ := Option.map_eq_some_iff.mp hy
      by_cases hlt : i < i0
      · obtain ⟨v, hv, hs⟩ := ht0 i z hlt hz'
        have hd : DGet H4 p2 (.str z) (some v) := by rw [← hv]; exact DGet.k (k := .inr z) (e4 _ _ hg)
        refine ⟨_, rfl, _, rfl, _, rfl, p2, v, rfl, hd, z, v, true, rfl, hs.mono e4, fun H5 e5 => ?_⟩
        exact ⟨_, rfl, iteF ⟨hlt, _, rfl, e4.trans e5⟩⟩
      · have hi : i = i0 := by omega
        subst hi
        obtain rfl : z = fl := Option.some.inj (hz'.symm.trans hi0)
        have hd : DGet H4 p2 (.str z) (some v0) := by rw [← hv0]; exact DGet.k (k := .inr z) (e4 _ _ hg)
        refine ⟨_, rfl, _, rfl, _, rfl, p2, v0, rfl, hd, z, v0, false, rfl, hs0.mono e4, fun H5 e5 => ?_⟩
        exact ⟨_, rfl, iteT ⟨_, rfl, _, rfl, (hz.later ((e3.trans e4).trans e5)).now⟩⟩
    · rintro σ H4 ⟨hle, _⟩
      have := (List.getElem?_eq_some_iff.mp hi0).1
      have h7 : (stF.map V.str).length = 7 := rfl
      have h7' : stF.length = 7 := rfl
      omega
theorem mk_bookX {p dx : Addr} {H : Hp} {Q : VK} {E : XK} {t o f e s a k : V} {x : Str} (hx : H p = none) (hdx : H dx = none) (hne : dx ≠ p) (hw : Wr Z.K C H (stL t o f e s a k) x) (hz : Rz CX "field" (.str x) H E) :
    spBookX Z.K C CB CX [.ref p, t, o, f, e, s, a, k] (upd (upd H dx (.own p)) p (.ins CB dx [])) Q E := by
  have e0 : Same H (upd (upd H dx (.own p)) p (.ins CB dx [])) := fun c u h => by rw [upd_ne (ne_of_none h hx), upd_ne (ne_of_none h hdx)]; exact h
  exact ⟨p, dx, t, o, f, e, s, a, k, x, rfl, upd_same, hw.mono e0, hz.later e0⟩
abbrev CBookX (Z : Cz) (C CB CX : Addr) : Prop := CalC Z (CXN Z) 10 CB "Book" bkPs [.int 1, .bl false, .bl false, .str "ever", .bl true] (spBookX Z.K C CB CX)
abbrev CBookKX (Z : Cz) (C CB CX : Addr) : Prop := CalCK Z (CXN Z) 10 CB "Book" bkPs 2 bkKs (spBookX Z.K C CB CX)
def spFiveX (K : Frag) (C CX : Addr) : Sp := fun vs H _ E => ∃ v, vs = [v] ∧ AbB K C H v false ∧ Rz CX "field" (.str "told") H E
end
end Ps

/-! Books changed wrongly. -/
namespace Ps
open PySem PySem.Spec PyProof.Rows PySem.W L2

def inF : Key × V → Bool := fun kv => inV (kV kv.1) (stF.map V.str)
theorem mem_stF {x : Str} (h : x ∈ stF) (v : V) : inF (.inr x, v) = true := in_stF h
def spChgX (K : Frag) (C CB CX : Addr) : Sp := fun vs H _ E => ∃ (a dx ds d : Addr) (kvs : List (Key × V)) (t o f e s a' k : V), vs = [.ref a, .ref d] ∧ H a = some (.ins CB dx [("settings", .ref ds)]) ∧ H ds = some (.dK (stL t o f e s a' k)) ∧
  H d = some (.dK kvs) ∧ kvs.length ≤ 10 ∧ (∀ kv ∈ kvs, ∃ x, kv.1 = Sum.inr x) ∧
  ((kvs.all inF = true ∧ ∃ t2 o2 f2 e2 s2 a2 k2 x, mergeK (stL t o f e s a' k) kvs = stL t2 o2 f2 e2 s2 a2 k2 ∧ Wr K C H (stL t2 o2 f2 e2 s2 a2 k2) x ∧ Rz CX "field" (.str x) H E) ∨ (kvs.all inF = false ∧ Rz CX "field" (.str "name") H E))
section
variable {Z : Cz} {f C CB CX P fX : Addr} {fd : FuncData}
theorem ok_changedX (F : Fun Z.K "changed" "Book.changed" s_Book_changed f fd) (B : BkT Z) (K : BkC Z CB) (TB : TBook Z CX P fX) (c : CBookKX Z C CB CX) (ks : List Str) (hnd : ks.Nodup)
    (hb : ∀ (kV doc pm : Value) (an : Option Addr) (cdv ct : Value) (u : Value) (ws : List Value), ws.length = ks.length → bindArgs (PySem.W.fnOf "changed" "Book.changed" (defArgs s_Book_changed) (defBody s_Book_changed) (defScope s_Book_changed) .none kV doc pm an cdv ct) ⟨[u], ks.zip ws⟩ =
      ((alloc ({ cls := .type "dict", data := .dict #[] } : Obj) : Sem Addr) >>= fun d => (forIn (ks.zip ws) PUnit.unit fun x _ => do nsSet d x.1 x.2; pure (ForInStep.yield PUnit.unit)) >>= fun _ => pure [(("self" : Str), u), (("settings" : Str), Value.ref d)])) :
    FnKw Z.P Z.w Z.K Z.mg Z.base (CXN Z) 13 f ks (fun v zs H Q E => ks.length ≤ 100 ∧ ∀ d, H d = none → spChgX Z.K C CB CX [v, .ref d] (upd H d (.dK (kwK ks zs))) Q E) := by
  obtain ⟨oc, od, kV, doc, pm, an, cdv, ct, osl, rfl, lk, hcd⟩ := F.ex
  refine fn_kw (N := ["self", "settings", "field", "now"]) lk hcd sc_Book_changed cxUpN hnd (fun u ws hl => hb kV doc pm an cdv ct u ws hl) (fun A outer s H vs Q E hr h => ?_)
  obtain ⟨a, dx, ds, d, kvs, t, o, ff, e, ss, a', kp, rfl, ha, hds, hd, hl, hkv, hcase⟩ := h
  obtain ⟨aF, gF, sF⟩ := B.fields
  refine ⟨_, (pss_cons (ps_if (pt_not (pt_val (pe_callB (cr_all rfl) (by rfl) B.all (by decide +kernel) (pa_cons (pe_lock (pe_lc (own := [("field", 2)]) (g := gName 2) (tt := tYes) (by rfl) sc_Book_changed.nd (pi_keys (pv 1)) (blkOk_by (own := [("field", 2)]) (N := ["self", "settings", "field", "now"]) (sc := defScope s_Book_changed) (by decide +kernel)) (fun _ _ _ _ _ => (pg_name (i := 2) sc_Book_changed.nd rfl (Or.inl rfl))) (fun _ _ _ _ _ => pts_nil) (fun _ _ _ _ _ => (pe_cmpR (show OpR _ _ (rIn Z.K false) from op_in_seq) (pv 2) (pe_glob (v := .ref aF) rfl gF rfl) (by rfl))))) pa_nil))))
      (pss_one (ps_raiseX TB fl_field hr (L2N.takes_of rfl rfl rfl rfl) (pa_cons pe_str pa_nil) rfl))
      pss_nil)
      (pss_cons (ps_set (i := 3) sc_Book_changed.nd rfl (Or.inl rfl) (pe_dispM2 (pe_fld (pv 0) rfl) (pv 1)))
      (pss_one (ps_ret (pe_calCK c (hr.mono (by decide)) (by rfl) (passN (L2N.takes_of rfl rfl rfl rfl)) (pa_cons (pe_dget (hu_of hr) (pv 3) pe_str (fun _ _ => rfl)) (pa_cons (pe_dget (hu_of hr) (pv 3) pe_str (fun _ _ => rfl)) pa_nil)) (pk_cons (pe_dget (hu_of hr) (pv 3) pe_str (fun _ _ => rfl)) (pk_cons (pe_dget (hu_of hr) (pv 3) pe_str (fun _ _ => rfl)) (pk_cons (pe_dget (hu_of hr) (pv 3) pe_str (fun _ _ => rfl)) (pk_cons (pe_dget (hu_of hr) (pv 3) pe_str (fun _ _ => rfl)) (pk_cons (pe_dget (hu_of hr) (pv 3) pe_str (fun _ _ => rfl)) pk_nil)))))))))), ?_⟩
  refine ⟨d, _, hd, trivial, fun od => ?_⟩
  refine ⟨_, rfl, d, od, rfl, .inl ⟨kvs, upd_same, fun D hD => ?_⟩⟩
  have hdD : d ≠ D := ne_of_none upd_same hD
  refine lc_it (walk_keys (d := d) (o := od) (kvs := kvs)) (fun i H' => H' D = some (.lst ((kvs.take i).map fun kv => V.bl (inF kv))) ∧ Same (upd H d (.frz od (.dK kvs))) H') ⟨upd_same, Same.upd hD⟩ (fun i H' _ ⟨_, e⟩ => e _ _ upd_same) ?_ ?_
  · rintro i x H1 H2 hi ⟨hD1, e1⟩ ⟨rfl, k0, v0, hk0, rfl⟩
    obtain ⟨z, hkz⟩ := hkv _ (List.mem_of_getElem? hk0)
    have hkz : k0 = Sum.inr z := hkz
    subst hkz
    refine ⟨rfl, ?_⟩
    refine ⟨_, rfl, aF, _, rfl, .inr (sF _), rfl, rfl, ?_⟩
    refine ⟨_, hD1, ?_, ?_, ?_⟩
    · rw [List.length_map, List.length_take]; exact small1000' (by omega)
    · rw [upd_same, List.take_succ, hk0]
      simp only [Option.toList, List.map_append, List.map_cons, List.map_nil]
      rfl
    · intro c o hc
      rw [upd_ne (ne_of_none hc hD)]
      exact e1 _ _ hc
  rintro H1 ⟨hD1, e1⟩
  have e2 : Same H (upd H1 d (.dK kvs)) := lock_same hd e1
  refine ⟨e1 _ _ upd_same, D, kvs.map inF, rfl, ?_, ?_⟩
  · have : (upd H1 d (.dK kvs)) D = some (.lst (kvs.map fun kv => V.bl (inF kv))) := by
      rw [upd_ne hdD.symm, hD1, List.take_length]
    exact SqL.of (by rw [this, List.map_map]; rfl)
  generalize (upd H1 d (.dK kvs)) = H2 at e2
  refine ⟨_, rfl, ?_⟩
  rw [show (kvs.map inF).all id = kvs.all inF by rw [List.all_map]; rfl]
  rcases hcase with ⟨hall, t2, o2, f2, e2', s2, a2, k2, x, hm, hw, hz⟩ | ⟨hall, hz⟩
  · rw [hall]
    refine iteF ?_
    intro p hp
    refine ⟨_, rfl, a, CB, dx, _, _, rfl, Same.upd hp _ _ (e2 _ _ ha), K.cl, K.nS, rfl, ds, _, rfl, .inl (Same.upd hp _ _ (e2 _ _ hds)), upd_same, ?_, (by show 7 ≤ 100; decide), ?_⟩
    · exact (ne_of_none (e2 _ _ hds) hp).symm
    have hpd : p ≠ d := (ne_of_none (e2 _ _ hd) hp).symm
    refine ⟨_, rfl, d, kvs, rfl, .inl (by rw [upd_ne hpd.symm, upd_ne hpd.symm]; exact e2 _ _ hd), upd_same, hpd, by omega, ?_⟩
    have hm' : mergeK (mergeK [] (stL t o ff e ss a' kp)) kvs = stL t2 o2 f2 e2' s2 a2 k2 := hm
    rw [hm']
    have e3 : ∀ o1 o2 o3, Same H2 (upd (upd (upd H2 p o1) p o2) p o3) := fun o1 o2 o3 c o h => by
      rw [upd_ne (ne_of_none h hp), upd_ne (ne_of_none h hp), upd_ne (ne_of_none h hp)]
      exact h
    have hp3 : ∀ o1 o2 o3, (upd (upd (upd H2 p o1) p o2) p o3) p = some o3 := fun _ _ _ => upd_same
    generalize hH3 : (upd (upd (upd H2 p (.dK [])) p (.dK _)) p (.dK (stL t2 o2 f2 e2' s2 a2 k2))) = H3
    have e03 : Same H H3 := by rw [← hH3]; exact e2.trans (e3 _ _ _)
    have hn : H3 p = some (.dK (stL t2 o2 f2 e2' s2 a2 k2)) := by rw [← hH3]; exact hp3 _ _ _
    refine ⟨_, rfl, p, _, rfl, DGet.k (k := .inr "tries") hn, _, rfl, p, _, rfl, DGet.k (k := .inr "told") hn, ?_⟩
    refine ⟨_, rfl, p, _, rfl, DGet.k (k := .inr "factor") hn, _, rfl, p, _, rfl, DGet.k (k := .inr "equal") hn, _, rfl, p, _, rfl, DGet.k (k := .inr "sliding") hn, _, rfl, p, _, rfl, DGet.k (k := .inr "after") hn, _, rfl, p, _, rfl, DGet.k (k := .inr "keep") hn, rfl, rfl, ?_⟩
    intro x dx2 hx hdx hne
    exact mk_bookX hx hdx hne (hw.mono e03) (hz.later e03)
  · rw [hall]
    refine iteT ?_
    exact ⟨_, rfl, (hz.later e2).now⟩
end
def spKX (K : Frag) (C CB CX : Addr) (ks : List Str) : V → List V → Hp → VK → XK → Prop := fun v zs H Q E => ks.length ≤ 100 ∧ ∀ d, H d = none → spChgX K C CB CX [v, .ref d] (upd H d (.dK (kwK ks zs))) Q E
/-- a book's seven settings are right -/
theorem bk_right {K : Frag} {C : Addr} {H : Hp} {b : Bk} {vo vf va : V} (h : BkArg C H vo vf va b) (y : Str) (hy : y ∈ stF) : ∃ v, valV (stL (trV b.tries) vo vf (.bl b.equal) (.bl b.sliding) va (.bl b.keep)) (.inr y) = some v ∧ StB K C H y v true := by
  obtain ⟨i, hi⟩ := List.getElem?_of_mem hy
  exact set_i h hi
/-- the setting x put otherwise -/
def stPut (t o f e s a k : V) (x : Str) (v : V) : List (Key × V) := if x = "tries" then stL v o f e s a k else if x = "told" then stL t v f e s a k else if x = "factor" then stL t o v e s a k else if x = "equal" then stL t o f v s a k else if x = "sliding" then stL t o f e v a k else if x = "after" then stL t o f e s v k else stL t o f e s a v
/-- one setting put wrongly -/
theorem chgX1 {K : Frag} {C CB CX : Addr} {x : Str} {v : V} {H : Hp} {vb : V} {b : Bk} {Q : VK} {E : XK} (hx : x ∈ stF) (hb : BkAt C CB H vb b) (hv : StB K C H x v false) (hz : Rz CX "field" (.str x) H E) : spKX K C CB CX [x] vb [v] H Q E := by
  obtain ⟨a, dx, ds, rfl, ha, ⟨vo, vf, va, hds, h1, h2, h3⟩, hok⟩ := hb
  refine ⟨(by show 1 ≤ 100; decide), fun d hd => ?_⟩
  have e := Same.upd (o := .dK (kwK [x] [v])) hd
  have hg : BkArg C (upd H d (.dK (kwK [x] [v]))) vo vf va b := ⟨hok, .inl (h1.mono e), .inl (h2.mono e), (h3.mono e).toA⟩
  refine ⟨a, dx, ds, d, kwK [x] [v], _, _, _, _, _, _, _, rfl, e _ _ ha, e _ _ hds, upd_same, (by show 1 ≤ 10; decide), (fun kv hm => ?_), .inl ⟨?_, ?_⟩⟩
  · obtain rfl : kv = (Sum.inr x, v) := by simpa [kwK] using hm
    exact ⟨x, rfl⟩
  · show ([(Sum.inr x, v)] : List (Key × V)).all inF = true
    simp only [List.all_cons, List.all_nil, Bool.and_true]
    exact mem_stF hx v
  have hv' := hv.mono e
  have hz' := hz.later e
  have R := bk_right (K := K) hg
  simp only [stF, List.mem_cons, List.not_mem_nil, or_false] at hx
  have go : ∀ (i : Nat) (t2 o2 f2 e2 s2 a2 k2 : V), stF[i]? = some x → mergeK (stL (trV b.tries) vo vf (.bl b.equal) (.bl b.sliding) va (.bl b.keep)) (kwK [x] [v]) = stL t2 o2 f2 e2 s2 a2 k2 → valV (stL t2 o2 f2 e2 s2 a2 k2) (.inr x) = some v →
      (∀ (j : Nat) (y : Str), j < i → stF[j]? = some y → valV (stL t2 o2 f2 e2 s2 a2 k2) (.inr y) = valV (stL (trV b.tries) vo vf (.bl b.equal) (.bl b.sliding) va (.bl b.keep)) (.inr y)) →
      ∃ t2 o2 f2 e2 s2 a2 k2 y, mergeK (stL (trV b.tries) vo vf (.bl b.equal) (.bl b.sliding) va (.bl b.keep)) (kwK [x] [v]) = stL t2 o2 f2 e2 s2 a2 k2 ∧ Wr K C (upd H d (.dK (kwK [x] [v]))) (stL t2 o2 f2 e2 s2 a2 k2) y ∧ Rz CX "field" (.str y) (upd H d (.dK (kwK [x] [v]))) E := by
    intro i t2 o2 f2 e2 s2 a2 k2 hi hm hval hj
    refine ⟨t2, o2, f2, e2, s2, a2, k2, x, hm, ⟨i, hi, fun j y hji hy => ?_, v, hval, hv'⟩, hz'⟩
    rw [hj j y hji hy]
    exact R y (List.mem_of_getElem? hy)
  have jj : ∀ {i j : Nat} {y : Str} {A B : List (Key × V)}, (∀ n : Nat, n < i → n < 7 → ∀ z, stF[n]? = some z → valV A (.inr z) = valV B (.inr z)) → j < i → stF[j]? = some y → valV A (.inr y) = valV B (.inr y) := fun {i j y A B} h hji hy => h j hji (List.getElem?_eq_some_iff.mp hy).1 y hy
  rcases hx with rfl | rfl | rfl | rfl | rfl | rfl | rfl
  · exact go 0 _ _ _ _ _ _ _ rfl rfl rfl (fun j y hji _ => absurd hji (by omega))
  · exact go 1 _ _ _ _ _ _ _ rfl rfl rfl (fun j y hji hy => by
      rcases (show j = 0 by omega) with rfl; obtain rfl := Option.some.inj hy; rfl)
  · exact go 2 _ _ _ _ _ _ _ rfl rfl rfl (fun j y hji hy => by
      rcases (show j = 0 ∨ j = 1 by omega) with rfl | rfl <;> (obtain rfl := Option.some.inj hy; rfl))
  · exact go 3 _ _ _ _ _ _ _ rfl rfl rfl (fun j y hji hy => by
      rcases (show j = 0 ∨ j = 1 ∨ j = 2 by omega) with rfl | rfl | rfl <;> (obtain rfl := Option.some.inj hy; rfl))
  · exact go 4 _ _ _ _ _ _ _ rfl rfl rfl (fun j y hji hy => by
      rcases (show j = 0 ∨ j = 1 ∨ j = 2 ∨ j = 3 by omega) with rfl | rfl | rfl | rfl <;> (obtain rfl := Option.some.inj hy; rfl))
  · exact go 5 _ _ _ _ _ _ _ rfl rfl rfl (fun j y hji hy => by
      rcases (show j = 0 ∨ j = 1 ∨ j = 2 ∨ j = 3 ∨ j = 4 by omega) with rfl | rfl | rfl | rfl | rfl <;> (obtain rfl := Option.some.inj hy; rfl))
  · exact go 6 _ _ _ _ _ _ _ rfl rfl rfl (fun j y hji hy => by
      rcases (show j = 0 ∨ j = 1 ∨ j = 2 ∨ j = 3 ∨ j = 4 ∨ j = 5 by omega) with rfl | rfl | rfl | rfl | rfl | rfl <;> (obtain rfl := Option.some.inj hy; rfl))
/-- an unknown name -/
theorem chgXN {K : Frag} {C CB CX : Addr} {u v : V} {H : Hp} {vb : V} {b : Bk} {Q : VK} {E : XK} (hb : BkAt C CB H vb b) (hz : Rz CX "field" (.str "name") H E) : spKX K C CB CX ["keep", "wrongly"] vb [u, v] H Q E := by
  obtain ⟨a, dx, ds, rfl, ha, ⟨vo, vf, va, hds, h1, h2, h3⟩, hok⟩ := hb
  refine ⟨(by show 2 ≤ 100; decide), fun d hd => ?_⟩
  have e := Same.upd (o := .dK (kwK ["keep", "wrongly"] [u, v])) hd
  refine ⟨a, dx, ds, d, kwK ["keep", "wrongly"] [u, v], _, _, _, _, _, _, _, rfl, e _ _ ha, e _ _ hds, upd_same, (by show 2 ≤ 10; decide), (fun kv hm => ?_), .inr ⟨?_, hz.later e⟩⟩
  · unfold kwK at hm
    obtain ⟨p, _, rfl⟩ := List.mem_map.mp hm
    exact ⟨p.1, rfl⟩
  · show (inF (Sum.inr "keep", u) && (inF (Sum.inr "wrongly", v) && true)) = false
    rw [show inF (Sum.inr "wrongly", v) = false from (by decide +kernel : inV (.str "wrongly") (stF.map V.str) = false)]
    simp
end Ps

/-! o.m(**d). -/
namespace Ps
open PySem PySem.Spec PyProof.Rows PySem.W L2 He
section
variable {prog : Program} {w : World} {A : Around} {E : Value → Shared → Prop} {s : Shared}
/-- keys that the dict at d has not: none is told twice -/
theorem mergeNew_pairs {d o : Addr} {more : List (Key × Value)} {Q : Unit → Shared → Prop} (hdo : d ≠ o) (hoS : (o == sysModules) = false)
    (hd : s.heap.DictOf (mixKind prog w) d []) (ho : s.heap.DictOf (mixKind prog w) o more) (hsz : more.length ≤ sizeLine)
    (hQ : ∀ h', h'.DictOf (mixKind prog w) d more → Heap.SameBut d s.heap h' → Q () { s with heap := h' }) :
    wpAny (model prog w) A (mergeMapping d (.ref o) true) Q E s := by
  obtain ⟨od, esd, epd, hod, hcd, hdd, hkd, hpd, hnd⟩ := id hd
  obtain ⟨oo, eso, epo, hoo, hco, hdo', hko, hpo, hno⟩ := id ho
  have hlen : more.length = eso.size := by rw [← hpo.length]; simp
  unfold mergeMapping
  refine wpAny_bind (m := isInstance (.ref o) (.type "dict")) (wpAny_isInstance ho.typeIs PySem.F.sub_dict_dict ?_)
  dsimp only
  rw [if_pos rfl]
  refine wpAny_bind (m := specialOf (.ref o) "__iter__") (wpAny_specialOf ho.typeIs PySem.F.slot_dict_iter.lookup ?_)
  refine wpAny_bind (wpAny_pure ?_)
  simp only [beq_self_eq_true]
  rw [if_neg (show ¬ (o == sysModules) = true by rw [hoS]; exact Bool.false_ne_true)]
  refine wpAny_bind (wpAny_dictEntries hod hdd ?_)
  have loop : wpAny (model prog w) A (do
      let size := (← dictEntries o).size
      let epoch ← dictEpoch o
      for i in List.range size do
        let some e := (← dictEntries o)[i]? | unsupported "dict.changed-during-merge"
        holding [e.key, e.val] do
          if true = true then
            if (← dictFind d e.key e.hash).isSome then rule "dict.merge.duplicate-key"; raiseNew (← newExc (.type "KeyError") [e.key])
          dictPut d e.hash e.key e.val
        if (← dictEpoch o) != epoch then unsupported "dict.changed-during-merge") Q E s := by
    refine wpAny_bind (wpAny_dictEntries hoo hdo' ?_)
    refine wpAny_bind (wpAny_dictEpoch hoo hdo' ?_)
    refine wpAny_bind ?_
    refine wpAny_forIn_list _
      (fun rest _ s' => ∃ h' i, s' = { s with heap := h' } ∧ rest = (List.range eso.size).drop i ∧ i ≤ eso.size ∧ h'.DictOf (mixKind prog w) d (more.take i) ∧ h'.get? o = some oo ∧ Heap.SameBut d s.heap h')
      _ ?_ ?_ _ _ ⟨s.heap, 0, rfl, by simp, Nat.zero_le _, by simpa using hd, hoo, Heap.SameBut.refl _ _⟩
    · rintro x rest b s' ⟨h', i, rfl, hr, hi, hd', hoo', hs'⟩
      have hlt : i < eso.size := by
        rcases Nat.lt_or_ge i eso.size with h | h
        · exact h
        · rw [List.drop_of_length_le (by simpa using h)] at hr; cases hr
      obtain ⟨rfl, hrest⟩ : x = i ∧ rest = (List.range eso.size).drop (i + 1) := by
        rw [List.drop_eq_getElem_cons (by simpa using hlt)] at hr
        injection hr with h1 h2
        exact ⟨by simpa using h1, h2⟩
      refine wpAny_bind (wpAny_dictEntries hoo' hdo' ?_)
      rw [Array.getElem?_eq_getElem hlt]
      obtain ⟨kv, hkv⟩ : ∃ kv, more[x]? = some kv := ⟨more[x]'(by rw [hlen]; exact hlt), List.getElem?_eq_getElem _⟩
      obtain ⟨k, v⟩ := kv
      obtain ⟨hkey, hval⟩ := hpo.get? (e := eso[x]) (by simp [hlt]) hkv
      obtain ⟨k', hkey', hhash⟩ := hko eso[x] (Array.getElem_mem hlt)
      obtain rfl : k' = k := (mixKind prog w).inj _ _ _ hkey' hkey
      have hmx : (more.take x).length ≤ sizeLine := by
        have e2 : (more.take x).length ≤ more.length := by rw [List.length_take]; omega
        omega
      have hxl : x < more.length := by rw [hlen]; exact hlt
      have hsp : more.take (x + 1) = more.take x ++ [(k', v)] := by rw [List.take_add_one, hkv]; rfl
      have hnot : k' ∉ (more.take x).map (·.1) := by
        have hnd' : ((more.take (x + 1)).map (·.1)).Nodup := List.Sublist.nodup ((List.take_sublist _ _).map _) hno
        rw [hsp, List.map_append, List.nodup_append] at hnd'
        intro hm
        exact hnd'.2.2 _ hm _ (by simp) rfl
      have hst : stored (more.take x) k' v = more.take (x + 1) := by
        have hany : ¬ ((more.take x).any fun kv => decide (kv.1 = k')) = true := by
          rw [List.any_eq_true]
          rintro ⟨kv, hm, he⟩
          exact hnot (List.mem_map.mpr ⟨kv, hm, of_decide_eq_true he⟩)
        rw [stored, if_neg hany, hsp]
      simp only [if_true]
      obtain ⟨o1, es1, ep1, ho1, hc1, hd1, hk1, hp1, hn1⟩ := id hd'
      have hidx : (es1.findIdx? fun e => (mixKind prog w).is k' e.key) = none := by
        have e1 : (es1.findIdx? fun e => (mixKind prog w).is k' e.key) = (more.take x).findIdx? fun kv => decide (kv.1 = k') := by
          rw [← hp1.findIdx k']
          obtain ⟨l⟩ := es1
          simp
        rw [e1, List.findIdx?_eq_none_iff]
        intro kv hm
        exact decide_eq_false fun he => hnot (List.mem_map.mpr ⟨kv, hm, he⟩)
      show wpAny _ _ (holding [eso[x].key, eso[x].val] _ >>= _) _ _ _
      refine wpAny_bind (wpAny_holding (wpAny_bind ?_))
      rw [hhash]
      refine wpAny_dictFind_of (s := { s with heap := h' }) hkey ho1 hd1 hk1 ?_
      rw [hidx]
      simp only [Option.isSome_none, Bool.false_eq_true, if_false]
      first
        | refine wpAny_bind (wpAny_pure ?_)
        | skip
      rw [hval]
      refine dictPut_pairs hkey hd' (fun h'' hd'' hs'' => ?_) hmx
      have hoo'' : h''.get? o = some oo := (hs''.2 o (Ne.symm hdo)).trans hoo'
      refine wpAny_bind (wpAny_dictEpoch hoo'' hdo' ?_)
      rw [if_neg (by simp)]
      exact wpAny_pure ⟨h'', x + 1, rfl, hrest, hlt, by rw [← hst]; exact hd'', hoo'', hs'.trans hs''⟩
    · rintro b s' ⟨h', i, rfl, hr, hi, hd', hoo', hs'⟩
      have hin : i = eso.size := by
        rcases Nat.lt_or_ge i eso.size with h | h
        · rw [List.drop_eq_getElem_cons (by simpa using h)] at hr; cases hr
        · exact Nat.le_antisymm hi h
      refine wpAny_pure (hQ h' ?_ hs')
      rw [hin, ← hlen, List.take_length] at hd'; exact hd'
  split
  · refine wpAny_bind (wpAny_dictEntries hoo hdo' ?_)
    refine wpAny_bind ?_
    rw [← Array.forIn_toList]
    refine wpAny_forIn_list _ (fun rest _ s' => s' = s ∧ ∀ e ∈ rest, e ∈ eso.toList) _ ?_ ?_ _ _ ⟨rfl, fun _ h => h⟩
    · rintro e rest b s' ⟨rfl, hm⟩
      have he : e ∈ eso := Array.mem_toList_iff.mp (hm e (List.mem_cons_self ..))
      obtain ⟨k', hk', _⟩ := hko e he
      have hne : ∀ a, e.key ≠ .ref a := by
        rcases keyIs_shape hk' with ⟨i, t, _, h⟩ | ⟨x, t, _, h⟩ <;> (intro a z; rw [h] at z; cases z)
      obtain ⟨eh, ek, ev⟩ := e
      dsimp only at hne ⊢
      cases ek with
      | ref a => exact absurd rfl (hne a)
      | _ => exact wpAny_pure ⟨rfl, fun e h => hm e (List.mem_cons_of_mem _ h)⟩
    · rintro b s' ⟨rfl, _⟩
      exact loop
  · exact loop

/-- the dict's pairs as keywords -/
theorem keywordsIn_pairs {f : Value} {d : Addr} {ks : List Str} {ws : List Value} {Q : List (Str × Value) → Shared → Prop} (hd : s.heap.DictOf (mixKind prog w) d ((ks.zip ws).map fun p => ((Sum.inr p.1 : Key), p.2))) (h : Q (ks.zip ws) s) : wpAny (model prog w) A (keywordsIn f d) Q E s := by
  obtain ⟨o, es, ep, ho, hc, hdd, hk, hp, hnd⟩ := id hd
  have hlen : (ks.zip ws).length = es.size := by
    have := hp.length
    simp only [List.length_map, Array.length_toList] at this
    omega
  unfold keywordsIn
  refine wpAny_bind (wpAny_dictEntries ho hdd ?_)
  refine wpAny_bind ?_
  rw [← Array.forIn_toList]
  refine wpAny_forIn_list _ (fun rest (b : List (Str × Value)) s' => ∃ i, s' = s ∧ rest = es.toList.drop i ∧ i ≤ es.size ∧ b = (ks.zip ws).take i) _ ?_ ?_ _ _ ⟨0, rfl, by simp, Nat.zero_le _, by simp⟩
  · rintro e rest b s' ⟨i, rfl, hr, hi, rfl⟩
    have hlt : i < es.size := by
      rcases Nat.lt_or_ge i es.size with h | h
      · exact h
      · rw [List.drop_of_length_le (by simpa using h)] at hr; cases hr
    obtain ⟨rfl, hrest⟩ : e = es[i] ∧ rest = es.toList.drop (i + 1) := by
      rw [List.drop_eq_getElem_cons (by simpa using hlt)] at hr
      injection hr with h1 h2
      exact ⟨by simpa using h1, h2⟩
    obtain ⟨kv, hkv⟩ : ∃ kv, (ks.zip ws)[i]? = some kv := ⟨(ks.zip ws)[i]'(by rw [hlen]; exact hlt), List.getElem?_eq_getElem _⟩
    obtain ⟨k, v⟩ := kv
    obtain ⟨hkey, hval⟩ := hp.get? (i := i) (e := es[i]) (k := (Sum.inr k : Key)) (v := v) (by simp [hlt]) (by rw [List.getElem?_map, hkv]; rfl)
    have hsh : ∃ t, es[i].key = .str k t := by
      rcases keyIs_shape (show keyIs (Sum.inr k) es[i].key = true from hkey) with ⟨j, t, z, _⟩ | ⟨x, t, z, h⟩
      · cases z
      · cases z; exact ⟨t, h⟩
    obtain ⟨t, hsh⟩ := hsh
    dsimp only
    rw [hsh]
    refine wpAny_pure ⟨i + 1, rfl, hrest, hlt, ?_⟩
    rw [List.take_add_one, hkv, hval]
    rfl
  · rintro b s' ⟨i, rfl, hr, hi, rfl⟩
    have hin : i = es.size := by
      rcases Nat.lt_or_ge i es.size with h | h
      · rw [List.drop_eq_getElem_cons (by simpa using h)] at hr; cases hr
      · exact Nat.le_antisymm hi h
    rw [hin, ← hlen, List.take_length]
    exact wpAny_pure h
end
section
variable {M : Model} {A : Around} {E : Value → Shared → Prop} {s : Shared} {K : Frag} {env : Env} {pos : Pos} {f : Value} {first : List Value} {Q : Value → Shared → Prop}
theorem callWith_star {P : Heap → Prop} {args : List (Bool × Sem Value)} {keywords : List (Option Str × Sem Value)} (hst : (args.any (·.1) || keywords.any (·.1.isNone)) = true)
    (hk : ∀ h, P h → ∃ k, (k = Keeper.frame ∨ k = Keeper.machine ∨ k = Keeper.boundFrame) ∧ Looks M h (keeperOf f) k)
    (h : wpAny M A (evalArgs f true args keywords) (fun a s₁ => P s₁.heap ∧ wpAny M A (call f (first ++ a.pos) a.kw) Q E s₁) E s) : wpAny M A (callWith pos f first args keywords) Q E s := by
  unfold callWith
  refine wpAny_bind (wpAny_holding (wpAny_mono h (fun a s₁ h₁ => wpAny_bind (wpAny_standAt ?_)) fun _ _ x => x))
  obtain ⟨k, hk', L⟩ := hk _ h₁.1
  simp only [hst]
  refine wpAny_bind (L.here ?_)
  have tail : ∀ {t : Sem Value}, wpAny M A t Q E s₁ → wpAny M A (t >>= fun r => holding [r] point >>= fun _ => pure r) Q E s₁ :=
    fun ht => wpAny_bind (wpAny_mono ht (fun r s₂ hr => wpAny_bind (wpAny_holding (wpAny_point (wpAny_pure hr)))) fun _ _ x => x)
  have marked (mk : Value) : wpAny M A (callMarked mk f (first ++ a.pos) a.kw) Q E s₁ := by unfold callMarked; exact Calls.wpAny_keep h₁.2
  rcases hk' with rfl | rfl | rfl <;> dsimp only <;> first | exact tail (marked _) | exact tail (wpAny_operating h₁.2)
/-- the lone ** argument -/
theorem evalArgs_dict {x : Sem Value} {Q : Args → Shared → Prop} (h : wpAny M A x (fun m s1 => wpAny M A (mergeMapping s.heap.objs.size m true) (fun _ s2 => wpAny M A (keywordsIn f s.heap.objs.size) (fun kw s3 => Q ⟨[], kw⟩ s3) E s2) (fun _ _ => False) s1) E { s with heap := s.heap.push { cls := .type "dict", data := .dict #[] } }) :
    wpAny M A (evalArgs f true [] [(none, x)]) Q E s := by
  unfold evalArgs
  dsimp only
  refine wpAny_bind (Calls.spliced_nil ?_)
  refine wpAny_bind (wpAny_pure ?_)
  refine wpAny_holding ?_
  rw [if_neg (by simp)]
  refine wpAny_bind ?_
  unfold mergedKeywords
  refine wpAny_bind (wpAny_alloc ?_)
  refine wpAny_bind (wpAny_holding ?_)
  dsimp only
  rw [List.forIn_cons]
  refine wpAny_bind ?_
  dsimp only
  refine wpAny_bind (wpAny_bind (wpAny_of_eq (a := ()) (if_pos rfl) ?_))
  refine wpAny_bind (wpAny_mono h (fun m s1 h1 => ?_) fun _ _ e => e)
  refine wpAny_bind (wpAny_onRaise (wpAny_holding (wpAny_tryCatch (wpAny_onRaise (wpAny_mono h1 (fun _ s2 h2 => ?_) fun _ _ z => z.elim)))))
  refine wpAny_pure ?_
  dsimp only
  rw [List.forIn_nil]
  refine wpAny_pure ?_
  refine wpAny_of_eq (a := ()) (if_pos rfl) ?_
  refine wpAny_pure ?_
  refine wpAny_bind (wpAny_pure ?_)
  refine wpAny_bind (wpAny_holding (wpAny_mono h2 (fun kw s3 h3 => ?_) fun _ _ e => e))
  exact wpAny_pure h3
end
/-- the pairs of the dict at o go into the new dict at d -/
theorem inv_mergeNew {X : Cx} {pins : List (Addr × Obj)} {σ : L2.St} {H : Hp} {s : Shared} {d o : Addr} {more : List (Key × V)} {Q : Unit → Shared → Prop} {E : Value → Shared → Prop} (I : L2.Inv X pins σ H s) (hd : H d = some (.dK [])) (ho : Rd H o (.dK more)) (hne : d ≠ o) (hz : more.length ≤ 1000)
    (h : ∀ s', L2.Inv X pins σ (upd H d (.dK more)) s' → Q () s') : wpAny (model X.prog X.w) X.A (mergeMapping d (.ref o) true) Q E s := by
  obtain ⟨z1, n1, vs, r1, d1⟩ := dk_of I.hok hd
  cases r1
  obtain ⟨z2, n2, us, r2, d2⟩ := dk_rd I.hok ho
  have hsz : us.length ≤ sizeLine := by rw [← r2.length, sizeLine_eq]; omega
  refine mergeNew_pairs hne n2 d1 d2 hsz fun h' dd' hs => h _ ?_
  have he : ∃ q, h'.get? d = some q := let ⟨q, _, _, hq, _⟩ := dd'; ⟨q, hq⟩
  exact d_write I (by rw [hd]; exact True.intro) hs he (dk_new z2 n1 r2 dd')
/-- a method by keywords out of a dict: each good list of names -/
def CalKD (Z : Cz) (CX : CXT) (k : Nat) (C : Addr) (m : Str) (Gd : List Str → Prop) (sp : List Str → V → List V → Hp → VK → XK → Prop) : Prop := ∃ f, (∀ ks, Gd ks → FnKw Z.P Z.w Z.K Z.mg Z.base CX k f ks (sp ks)) ∧ BMeth Z.K C m f ∧ Cls Z.K C
theorem starcallKw_of {M : Model} {A : Around} {E : Value → Shared → Prop} {s : Shared} {env : Env} {o e : Expr} {kw : Keyword} {m : Str} {apos pos : Pos} {Q : Value → Shared → Prop} (hbase : attributeBase o m env (eval o env) = eval o env)
    (hkw : keywordEach [kw] env = [(none, eval e env)])
    (h : wpAny M A (eval o env) (fun ov s₁ => wpAny M A (getAttr ov m true) (fun f s₂ => wpAny M A (callWith pos f [] [] (backToKw pos [(none, eval e env)])) Q E s₂) E s₁) E s) :
    wpAny M A (eval (.Call (.Attribute o m apos) [] [kw] pos) env) Q E s := by
  have hst : backTo pos (starEach [] env) = [] := rfl
  have hform : methodCallForm (([] : List Expr).length + [kw].length) [] (backToKw pos [(none, eval e env)]) = false := rfl
  have hpos : methodCallPos false o env apos pos = pure pos := rfl
  have hcal : ∀ ov, calleeOf false o env ov m = (getAttr ov m true >>= fun v => pure (v, [])) := fun _ => rfl
  rw [arm_eval_Call, hbase, hkw, hst]
  refine wpAny_bind (wpAny_mono h (fun ov s₁ h₁ => ?_) fun _ _ x => x)
  refine wpAny_bind (wpAny_standAt ?_)
  unfold methodCall
  rw [hform, hpos, hcal]
  refine wpAny_bind (wpAny_holding (wpAny_bind (wpAny_mono h₁ (fun f s₂ h₂ => wpAny_pure ?_) fun _ _ x => x)))
  exact wpAny_bind (wpAny_pure h₂)
theorem kw_len {ks : List Str} {zs : List V} : ∀ {us : List (Key × Value)}, KV (kwK ks zs) us → ks.length = zs.length → ∃ ws : List Value, us = (ks.zip ws).map (fun p => ((Sum.inr p.1 : Key), p.2)) ∧ Vals zs ws ∧ ws.length = ks.length := by
  induction ks generalizing zs with
  | nil =>
    intro us h hl
    cases zs with
    | nil => cases h; exact ⟨[], rfl, .nil, rfl⟩
    | cons z r => cases hl
  | cons k ks ih =>
    intro us h hl
    cases zs with
    | nil => cases hl
    | cons z r =>
      have h' : KV ((Sum.inr k, z) :: kwK ks r) us := h
      cases h' with
      | cons h1 h2 =>
        rename_i kv us'
        obtain ⟨ws, e, v, l⟩ := ih h2 (by simpa using hl)
        obtain ⟨kv1, kv2⟩ := kv
        obtain ⟨e1, e2⟩ := h1
        have e1 : (Sum.inr k : Key) = kv1 := e1
        subst e1
        exact ⟨kv2 :: ws, by rw [e]; rfl, .cons e2 v, by simp [l]⟩
section
variable {Z : Cz} {X : Cx} {CX : CXT} {k : Nat} {C : Addr} {Gd : List Str → Prop} {sp : List Str → V → List V → Hp → VK → XK → Prop} {E : XK} {m : Str} {pos apos kpos : Pos} {o e : Expr} {ta td : TE}
def tMethKD (C : Addr) (m : Str) (Gd : List Str → Prop) (sp : List Str → V → List V → Hp → VK → XK → Prop) (E : XK) (ta td : TE) : TE := fun σ H Q => ta σ H fun x H1 => ∃ a dx fs, x = .ref a ∧ H1 a = some (.ins C dx fs) ∧ fs.lookup m = none ∧
  ∀ q g p, H1 q = none → (upd H1 q (.met g a)) p = none → td σ (upd (upd H1 q (.met g a)) p (.dK [])) fun y H2 => ∃ d ks zs, y = .ref d ∧ H2 d = some (.dK (kwK ks zs)) ∧ H2 p = some (.dK []) ∧ H2 q = some (.met g a) ∧ p ≠ d ∧ p ≠ q ∧ ks.length = zs.length ∧ ks.length ≤ 100 ∧ Gd ks ∧ sp ks x zs (upd H2 p (.dK (kwK ks zs))) Q E
theorem pe_calKD {kw : Keyword} (c : CalKD Z CX k C m Gd sp) (hr : Room k X.A) (hx : Passes CX X E) (he : PE X o ta) (hd : PE X e td) (z : InZ Z X := by exact ⟨rfl, rfl, rfl, rfl, rfl⟩)
    (hkw : keywordEach [kw] X.env = [(none, eval e X.env)] := by rfl) (hbase : attributeBase o m X.env (eval o X.env) = eval o X.env := by rfl) :
    PE X (.Call (.Attribute o m apos) [] [kw] pos) (tMethKD C m Gd sp E ta td) := by
  obtain ⟨f, G, hm, cl⟩ := c
  obtain ⟨e1, e2, e3, e4, e5⟩ := z
  rw [← e1, ← e2, ← e3, ← e4, ← e5] at G
  rw [← e3] at hm cl
  refine ⟨fun pins s σ H Q I h => ?_⟩
  refine starcallKw_of hbase hkw (thn (he.run pins s σ H _ I h) fun u s0 ⟨x, H0, I0, rx, a, dx, fs, ex, ea, l, q⟩ => ?_)
  subst ex
  obtain rfl : u = Value.ref a := rx
  refine getbound_ok I0 ea cl hm l fun q1 s1 hq1 I1 => ?_
  have hn := I1.hok.fresh (Nat.le_refl s1.heap.objs.size)
  have I2 := I1.laid (a := s1.heap.objs.size) (o := .dK []) (h' := s1.heap.push { cls := .type "dict", data := .dict #[] }) (t' := s1.toks) (fun _ _ q => Heap.get?_push_of_some _ q) (Nat.le_refl _) (dk_empty s1.heap I1.big)
  refine callWith_star (P := PySem.W.MethP X.K q1 f (.ref a)) rfl (PySem.W.keeps_M hm.fi) (evalArgs_dict ?_)
  refine wpAny_bind (thn (hd.run pins _ σ _ _ I2 (q q1 f _ hq1 hn)) fun u2 s2 ⟨y, H2, I3, ry, d, ks, zs, ey, ed, ep, eq, hne, hne2, hl, h100, gd, q2⟩ => wpAny_bind (wpAny_standAt (wpAny_pure ?_)))
  subst ey
  obtain rfl : u2 = Value.ref d := ry
  have hkl : (kwK ks zs).length ≤ 1000 := by
    unfold kwK
    rw [List.length_map, List.length_zip]
    exact Nat.le_trans (Nat.min_le_left _ _) (by omega)
  refine inv_mergeNew I3 ep (.inl ed) hne hkl fun s3 I4 => ?_
  obtain ⟨z4, n4, us, r4, d4⟩ := dk_of I4.hok (show (upd H2 s1.heap.objs.size (.dK (kwK ks zs))) s1.heap.objs.size = _ from upd_same)
  obtain ⟨ws, rfl, rz, hwl⟩ := kw_len r4 hl
  have hmet := met_P I4 (show (upd H2 s1.heap.objs.size (.dK (kwK ks zs))) q1 = some (.met f a) by rw [upd_ne hne2.symm]; exact eq)
  refine keywordsIn_pairs d4 ⟨hmet, ?_⟩
  refine wpAny_call (PySem.W.method_call hmet.1 (codeAny_mono (G ks gd X.A X.stack s3 _ (.ref a) ws (.ref a) zs Q E hr I4.env0 rfl rz hwl q2) fun r s' hq => ?_))
  cases r with
  | error e => exact hx pins σ _ s3 e s' I4 hq
  | ok fl =>
    cases fl with
    | ret u => exact I4.after hq
    | next => exact False.elim hq
    | brk => exact False.elim hq
    | cont => exact False.elim hq
end
end Ps

/-! Book.changed, by any names. -/
namespace Ps
open PySem PySem.Spec PyProof.Rows PySem.W L2

theorem forIn_extra {σ : Type} {body : Str × Value → σ → Sem (ForInStep σ)} {step : σ → Str × Value → σ} {good : Str × Value → Prop} (h : ∀ p s, good p → body p s = pure (.yield (step s p))) : ∀ (kw : List (Str × Value)) (s : σ), (∀ p ∈ kw, good p) → forIn kw s body = pure (kw.foldl step s)
  | [], s, _ => by rw [List.forIn_nil]; rfl
  | p :: kw, s, hg => by
    rw [List.forIn_cons, h p s (hg p List.mem_cons_self)]
    show forIn kw (step s p) body = _
    rw [forIn_extra h kw _ fun q hq => hg q (List.mem_cons_of_mem _ hq)]
    rfl
theorem foldl_extra (sl : List (Str × Value)) : ∀ (kw ex : List (Str × Value)), kw.foldl (fun (s : List (Str × Value) × List (Str × Value)) (p : Str × Value) => (s.1, s.2 ++ [p])) (sl, ex) = (sl, ex ++ kw)
  | [], ex => by simp
  | p :: kw, ex => by
    show kw.foldl _ (sl, ex ++ [p]) = _
    rw [foldl_extra sl kw]
    simp
theorem bind_changed (kV doc pm : Value) (an : Option Addr) (cdv ct : Value) (u : Value) (kw : List (Str × Value)) (hs : ∀ p ∈ kw, p.1 ≠ ("self" : Str)) (hl : kw.length ≤ 100) :
    bindArgs (PySem.W.fnOf "changed" "Book.changed" (defArgs s_Book_changed) (defBody s_Book_changed) (defScope s_Book_changed) .none kV doc pm an cdv ct) ⟨[u], kw⟩ =
      ((alloc ({ cls := .type "dict", data := .dict #[] } : Obj) : Sem Addr) >>= fun d => (forIn kw PUnit.unit fun x _ => do nsSet d x.1 x.2; pure (ForInStep.yield PUnit.unit)) >>= fun _ => pure [(("self" : Str), u), (("settings" : Str), Value.ref d)]) := by
  unfold bindArgs
  dsimp only
  rw [forIn_extra (step := fun (s : List (Str × Value) × List (Str × Value)) (p : Str × Value) => (s.1, s.2 ++ [p])) (good := fun p => p.1 ≠ ("self" : Str)) (fun p s hp => ?_) kw _ hs, foldl_extra]
  · have hk : ¬ ([] ++ kw).length > sizeLine + 1 := by
      rw [List.nil_append, sizeLine_eq]
      omega
    generalize hkk : [] ++ kw = kk at hk
    have e0 : kk = kw := by rw [← hkk]; rfl
    subst e0
    exact if_neg hk
  · have h1 : ¬ ((List.map (fun x => x.arg) (defArgs s_Book_changed).args).contains p.1 || (List.map (fun x => x.arg) (defArgs s_Book_changed).kwonlyargs).contains p.1) = true := by
      show ¬ ((([("self" : Str)] : List Str).contains p.1) || ([] : List Str).contains p.1) = true
      simp only [List.contains_cons, List.contains_nil, Bool.or_false, beq_iff_eq]
      exact hp
    rw [if_neg h1]
    exact if_pos rfl
def GdF (ks : List Str) : Prop := ks.Nodup ∧ (∀ x ∈ ks, x ∈ stF) ∧ ks.length ≤ 10
theorem GdF.self {ks : List Str} (h : GdF ks) (ws : List Value) : ∀ p ∈ ks.zip ws, p.1 ≠ ("self" : Str) := fun p hp e => by
  have := h.2.1 _ (List.of_mem_zip hp).1
  rw [e] at this
  exact absurd this (by decide +kernel)
section
variable {Z : Cz} {f C CB : Addr} {fd : FuncData}
theorem changed_any (F : Fun Z.K "changed" "Book.changed" s_Book_changed f fd) (B : BkT Z) (K : BkC Z CB) (c : CBookK Z C CB) (ks : List Str) (hg : GdF ks) :
    FnKw Z.P Z.w Z.K Z.mg Z.base CX0 13 f ks (fun v zs H Q E => ks.length ≤ 100 ∧ ∀ d, H d = none → spChg C CB [v, .ref d] (upd H d (.dK (kwK ks zs))) Q E) :=
  ok_changed F B K c ks hg.1 fun kV doc pm an cdv ct u ws hl => bind_changed kV doc pm an cdv ct u _ (hg.self ws) (by rw [List.length_zip]; have := hg.2.2; omega)
end
end Ps

/-! Changes of books: is_change, changed_by. -/
namespace Ps
open PySem PySem.Spec PyProof.Rows PySem.W L2

section
variable {X : Cx}
def rInDct : R2 := fun x y H Q => ∃ a o, y = .ref a ∧ DGet H a x o ∧ Q (.bl o.isSome) H
theorem op_din (hu : X.A.units + 1 < cLine) : OpR X (compareOp .In) rInDct := by
  intro pins s σ H x y v u Q I rx ry h
  obtain ⟨a, o, rfl, g, q⟩ := h
  cases (show u = Value.ref a from ry)
  exact d_in hu I g rx fun s' I' => ⟨.bl o.isSome, H, I', rfl, q⟩
end
/-- a change that is right, or not -/
inductive ChB (K : Frag) (C : Addr) (H : Hp) : V → Bool → Prop
  | odd {v : V} {t : Value} (ty : TyX K H v t) (k : kitOne K t (.type "tuple") = some false) : ChB K C H v false
  | len {a : Addr} {xs : List V} (h : H a = some (.tup xs)) (hl : xs.length ≠ 2) : ChB K C H (.ref a) false
  | first {a : Addr} {x y : V} {t : Value} (h : H a = some (.tup [x, y])) (ty : TyX K H x t) (k : kitOne K t (.type "str") = some false) : ChB K C H (.ref a) false
  | name {a : Addr} {z : Str} {y : V} (h : H a = some (.tup [.str z, y])) (hz : inV (.str z) (stF.map V.str) = false) : ChB K C H (.ref a) false
  | set {a : Addr} {z : Str} {y : V} {b : Bool} (h : H a = some (.tup [.str z, y])) (hz : z ∈ stF) (hs : StB K C H z y b) : ChB K C H (.ref a) b
theorem ChB.mono {K : Frag} {C : Addr} {H H' : Hp} {v : V} {b : Bool} (e : Same H H') (h : ChB K C H v b) : ChB K C H' v b := by
  cases h with
  | odd ty k => exact .odd (TyX.mono e ty) k
  | len h hl => exact .len (e _ _ h) hl
  | first h ty k => exact .first (e _ _ h) (TyX.mono e ty) k
  | name h hz => exact .name (e _ _ h) hz
  | set h hz hs => exact .set (e _ _ h) hz (hs.mono e)
def spIsChg (K : Frag) (C : Addr) : Sp := fun vs H Q _ => ∃ v b, vs = [v] ∧ ChB K C H v b ∧ ∀ H', Same H H' → Q (.bl b) H'
def spCkB (K : Frag) (C CB CA : Addr) : Sp := fun vs H Q E => ∃ v, vs = [v] ∧ ((∃ b, BkAt C CB H v b ∧ Q .non H) ∨ (∃ t, TyX K H v t ∧ kitOne K t (.ref CB) = some false ∧ Rz CA "value" v H E))
/-- the first n changes are right: names ks, values zs -/
structure GoodC (K : Frag) (C : Addr) (H : Hp) (xs : List V) (n : Nat) (ks : List Str) (zs : List V) : Prop where
  hk : ks.length = n
  hz : zs.length = n
  nd : ks.Nodup
  at_ : ∀ (j : Nat) (k : Str) (z : V), ks[j]? = some k → zs[j]? = some z → ∃ t, xs[j]? = some (.ref t) ∧ H t = some (.tup [.str k, z]) ∧ k ∈ stF ∧ StB K C H k z true
theorem GoodC.mono {K : Frag} {C : Addr} {H H' : Hp} {xs : List V} {n : Nat} {ks : List Str} {zs : List V} (e : Same H H') (h : GoodC K C H xs n ks zs) : GoodC K C H' xs n ks zs :=
  ⟨h.hk, h.hz, h.nd, fun j k z h1 h2 => let ⟨t, a1, a2, a3, a4⟩ := h.at_ j k z h1 h2; ⟨t, a1, e _ _ a2, a3, a4.mono e⟩⟩
def spKG (C CB : Addr) (ks : List Str) : V → List V → Hp → VK → XK → Prop := fun v zs H Q E => ks.length ≤ 100 ∧ ∀ d, H d = none → spChg C CB [v, .ref d] (upd H d (.dK (kwK ks zs))) Q E
def spChBy (K : Frag) (C CB CA CC : Addr) : Sp := fun vs H Q E => ∃ v w, vs = [v, w] ∧
  ((∃ t, TyX K H v t ∧ kitOne K t (.ref CB) = some false ∧ Rz CA "value" v H E) ∨
   (∃ b, BkAt C CB H v b ∧ ((∃ t, TyX K H w t ∧ kitOne K t (.type "list") = some false ∧ Rz CC "value" w H E) ∨
     (∃ a xs, w = .ref a ∧ H a = some (.lst xs) ∧ ((5 < xs.length ∧ Rz CC "value" w H E) ∨
       (xs.length ≤ 5 ∧ ∃ n ks zs, GoodC K C H xs n ks zs ∧
         ((∃ x, xs[n]? = some x ∧ (ChB K C H x false ∨ (∃ t k z, x = .ref t ∧ H t = some (.tup [.str k, z]) ∧ k ∈ ks ∧ StB K C H k z true)) ∧ Rz CC "value" x H E) ∨
          (n = xs.length ∧ ∀ H', Same H H' → spKG C CB ks v zs H' Q E))))))))
/-- the keywords so far -/
theorem kwK_take {ks : List Str} {zs : List V} {n : Nat} {k : Str} {z : V} (nd : ks.Nodup) (hk : ks[n]? = some k) (hz : zs[n]? = some z) : putK (kwK (ks.take n) (zs.take n)) (.inr k) z = kwK (ks.take (n + 1)) (zs.take (n + 1)) := by
  have e1 : ks.take (n + 1) = ks.take n ++ [k] := by rw [List.take_succ, hk]; rfl
  have e2 : zs.take (n + 1) = zs.take n ++ [z] := by rw [List.take_succ, hz]; rfl
  have hn : n < ks.length := (List.getElem?_eq_some_iff.mp hk).1
  have hn2 : n < zs.length := (List.getElem?_eq_some_iff.mp hz).1
  have hl : (ks.take n).length = (zs.take n).length := by rw [List.length_take, List.length_take]; omega
  have hno : valV (kwK (ks.take n) (zs.take n)) (.inr k) = none := by
    have hnot : ∀ kv ∈ kwK (ks.take n) (zs.take n), ¬ kv.1 = (Sum.inr k : Key) := by
      intro kv hm he
      unfold kwK at hm
      obtain ⟨p, hp, rfl⟩ := List.mem_map.mp hm
      have hpk : p.1 = k := Sum.inr.inj he
      have h1 := (List.of_mem_zip hp).1
      rw [hpk] at h1
      have hnd : (ks.take n ++ [k]).Nodup := by
        rw [← e1]
        exact List.Sublist.nodup (List.take_sublist _ _) nd
      exact (List.nodup_append.mp hnd).2.2 k h1 k (by simp) rfl
    unfold valV
    rw [List.find?_eq_none.mpr (fun kv hm => by simpa using hnot kv hm)]
    rfl
  rw [putK_new _ hno]
  unfold kwK
  rw [e1, e2, List.zip_append hl, List.map_append]
  rfl
theorem kwK_has {ks : List Str} {zs : List V} {k : Str} (hl : ks.length = zs.length) (h : k ∈ ks) : (valV (kwK ks zs) (.inr k)).isSome = true := by
  unfold valV
  rw [Option.isSome_map]
  rw [List.find?_isSome]
  obtain ⟨i, hi⟩ := List.getElem?_of_mem h
  have hi' := (List.getElem?_eq_some_iff.mp hi).1
  have hzi : i < zs.length := by omega
  refine ⟨(Sum.inr k, zs[i]), ?_, by simp⟩
  unfold kwK
  refine List.mem_map.mpr ⟨(k, zs[i]), ?_, rfl⟩
  have : (ks.zip zs)[i]? = some (k, zs[i]) := by
    rw [List.getElem?_zip_eq_some]
    exact ⟨hi, List.getElem?_eq_getElem hzi⟩
  exact List.mem_of_getElem? this
theorem kwK_no {ks : List Str} {zs : List V} {k : Str} (h : k ∉ ks) : valV (kwK ks zs) (.inr k) = none := by
  have hnot : ∀ kv ∈ kwK ks zs, ¬ kv.1 = (Sum.inr k : Key) := by
    intro kv hm he
    unfold kwK at hm
    obtain ⟨p, hp, rfl⟩ := List.mem_map.mp hm
    have hpk : p.1 = k := Sum.inr.inj he
    exact h (hpk ▸ (List.of_mem_zip hp).1)
  unfold valV
  rw [List.find?_eq_none.mpr (fun kv hm => by simpa using hnot kv hm)]
  rfl
section
variable {Z : Cz} {f C CB CA CC P fA fC : Addr} {fd : FuncData}
theorem ok_check_book (F : Fun Z.K "check_book" "check_book" s_check_book f fd) (K : BkC Z CB) (J : BkI Z CB) (TA : ExT Z.K Z.mg "BadArgument" "value" "BadArgument.__init__" CA P fA) : Z.ok (CXN Z) 3 f fd ["book"] (spCkB Z.K C CB CA) := by
  refine Fun.okN F sc_check_book (fun vs H Q E h => ?_) (fun cdv A outer s H vs Q E hr h => ?_)
  · obtain ⟨v, rfl, _⟩ := h
    rfl
  · obtain ⟨v, rfl, h⟩ := h
    refine ⟨_, (pss_one (ps_if (pt_not (pt_val (pe_callB call_isi (by rfl) J.isi (by decide +kernel) (pa_cons (pv 0) (pa_cons (pe_glob (v := .ref CB) rfl K.mg rfl) pa_nil)))))
      (pss_one (ps_raiseX TA fl_value hr (L2N.takes_of rfl rfl rfl rfl) (pa_cons (pv 0) pa_nil) rfl))
      pss_nil)), ?_⟩
    rcases h with ⟨b, hb, k⟩ | ⟨t, ty, hk, hz⟩
    · obtain ⟨a, dx, d, rfl, ha, _⟩ := hb
      exact ⟨_, rfl, _, _, _, _, true, rfl, .own CB, .base (.ins ha K.cl J.ha J.hn J.htk J.hm), J.kCC, _, rfl, iteF k⟩
    · exact ⟨_, rfl, _, _, _, _, false, rfl, .own CB, ty, hk, _, rfl, iteT ⟨_, rfl, _, rfl, hz.now⟩⟩
theorem ok_is_change (F : Fun Z.K "is_change" "is_change" s_is_change f fd) (J : BkI Z CB) (B : BkT Z) (c_is_setting : CSetting Z C) : Z.ok CX0 10 f fd ["value"] (spIsChg Z.K C) := by
  refine F.ok sc_is_change (fun vs H Q E h => ?_) (fun cdv A outer s H vs Q E hr h => ?_)
  · obtain ⟨v, b, rfl, _⟩ := h
    rfl
  · obtain ⟨v, b, rfl, h, k⟩ := h
    obtain ⟨aF, gF, sF⟩ := B.fields
    refine ⟨_, (pss_cons (ps_if (PW.pt (pw_or (pt_not (pt_val (pe_callB call_isi (by rfl) J.isi (by decide +kernel) (pa_cons (pv 0) (pa_cons (pe_ty "tuple" (by rfl) B.tuple (by decide +kernel)) pa_nil))))) (pw_or (pt_cmpR op_ne (pe_callB call_len_seq (by rfl) B.len PySem.boot_len (pa_cons (pv 0) pa_nil)) pe_int (nomark _)) (pw_or1 (pt_not (pt_val (pe_callB call_isi (by rfl) J.isi (by decide +kernel) (pa_cons (pe_ix ix_tup (pv 0) pe_int (fun _ _ => rfl)) (pa_cons (pe_ty "str" (by rfl) B.str (by decide +kernel)) pa_nil)))))))))
      (pss_one (ps_ret pe_bl))
      pss_nil)
      (pss_one (ps_ret (pe_and (pe_cmpR op_in_seq (pe_ix ix_tup (pv 0) pe_int (fun _ _ => rfl)) (pe_glob (v := .ref aF) rfl gF rfl) (by rfl)) (pe_one (pe_cal c_is_setting (hr.mono (by decide)) (by rfl) pass0 (pa_cons (pe_ix ix_tup (pv 0) pe_int (fun _ _ => rfl)) (pa_cons (pe_ix ix_tup (pv 0) pe_int (fun _ _ => rfl)) pa_nil)))))))), ?_⟩
    have k0 := k H (Same.refl _)
    cases h with
    | odd ty k1 => exact ⟨_, rfl, _, _, _, _, false, rfl, .ty "tuple", ty, k1, _, rfl, iteT k0⟩
    | @len a xs h hl =>
      refine ⟨_, rfl, _, _, _, _, true, rfl, .ty "tuple", .base (.tup h), kit_ty (by decide +kernel), _, rfl, iteF ?_⟩
      refine ⟨_, rfl, a, _, rfl, .inr (SqT.of h), rfl, _, rfl, ?_⟩
      rw [decide_eq_false (show ¬ V.int ((xs.length : Nat) : Int) = V.int 2 from fun z => hl (by have := V.int.inj z; omega))]
      exact iteT k0
    | @first a x y t h ty k1 =>
      refine ⟨_, rfl, _, _, _, _, true, rfl, .ty "tuple", .base (.tup h), kit_ty (by decide +kernel), _, rfl, iteF ?_⟩
      refine ⟨_, rfl, a, _, rfl, .inr (SqT.of h), rfl, _, rfl, iteNS rfl ?_⟩
      exact ⟨_, rfl, a, _, _, _, rfl, rfl, SqT.of h, rfl, _, _, _, _, false, rfl, .ty "str", ty, k1, _, rfl, iteT k0⟩
    | @name a z y h hz =>
      refine ⟨_, rfl, _, _, _, _, true, rfl, .ty "tuple", .base (.tup h), kit_ty (by decide +kernel), _, rfl, iteF ?_⟩
      refine ⟨_, rfl, a, _, rfl, .inr (SqT.of h), rfl, _, rfl, iteNS rfl ?_⟩
      refine ⟨_, rfl, a, _, _, _, rfl, rfl, SqT.of h, rfl, _, _, _, _, true, rfl, .ty "str", .base (.str _), kit_ty (by decide +kernel), _, rfl, iteF ?_⟩
      refine ⟨_, rfl, a, _, _, _, rfl, rfl, SqT.of h, rfl, aF, _, rfl, .inr (sF _), rfl, rfl, ?_⟩
      have hz' : inV (V.str z) [.str "tries", .str "told", .str "factor", .str "equal", .str "sliding", .str "after", .str "keep"] = false := hz
      rw [hz']
      exact ⟨_, rfl, iteF k0⟩
    | @set a z y b h hz hs =>
      refine ⟨_, rfl, _, _, _, _, true, rfl, .ty "tuple", .base (.tup h), kit_ty (by decide +kernel), _, rfl, iteF ?_⟩
      refine ⟨_, rfl, a, _, rfl, .inr (SqT.of h), rfl, _, rfl, iteNS rfl ?_⟩
      refine ⟨_, rfl, a, _, _, _, rfl, rfl, SqT.of h, rfl, _, _, _, _, true, rfl, .ty "str", .base (.str _), kit_ty (by decide +kernel), _, rfl, iteF ?_⟩
      refine ⟨_, rfl, a, _, _, _, rfl, rfl, SqT.of h, rfl, aF, _, rfl, .inr (sF _), rfl, rfl, ?_⟩
      have hz' : inV (V.str z) [.str "tries", .str "told", .str "factor", .str "equal", .str "sliding", .str "after", .str "keep"] = true := in_stF hz
      rw [hz']
      refine ⟨_, rfl, iteT ?_⟩
      exact ⟨_, rfl, a, _, _, _, rfl, rfl, SqT.of h, rfl, _, rfl, a, _, _, _, rfl, rfl, SqT.of h, rfl, z, y, b, rfl, hs, k⟩
/-- the changes of the law -/
theorem ok_changed_by (F : Fun Z.K "changed_by" "changed_by" s_changed_by f fd) (J : BkI Z CB) (B : BkT Z) (ml : Z.mg "list" = none) (mc : ∃ t, Z.mg "MOST_CHANGES" = some (.int 5 t)) (TC : ExT Z.K Z.mg "BadChange" "value" "BadChange.__init__" CC P fC)
    (c_check_book : Cal Z (CXN Z) 3 "check_book" ["book"] [] (spCkB Z.K C CB CA)) (c_is_change : Cal Z CX0 10 "is_change" ["value"] [] (spIsChg Z.K C)) (c_changed : CalKD Z CX0 13 CB "changed" GdF (fun ks => spKG C CB ks)) :
    Z.ok (CXN Z) 14 f fd ["book", "changes"] (spChBy Z.K C CB CA CC) := by
  refine Fun.okN F sc_changed_by (fun vs H Q E h => ?_) (fun cdv A outer s H vs Q E hr h => ?_)
  · obtain ⟨v, w, rfl, _⟩ := h
    rfl
  · obtain ⟨v, w, rfl, h⟩ := h
    obtain ⟨tm, gm⟩ := mc
    refine ⟨_, (pss_cons (ps_expr (pe_cal c_check_book (hr.mono (by decide)) (by rfl) (passN (L2N.takes_of rfl rfl rfl rfl)) (pa_cons (pv 0) pa_nil)))
      (pss_cons (ps_if (PW.pt (pw_or (pt_not (pt_val (pe_callB call_isi (by rfl) J.isi (by decide +kernel) (pa_cons (pv 1) (pa_cons (pe_ty "list" (by rfl) ml (by decide +kernel)) pa_nil))))) (pw_or1 (pt_cmpR op_gt (pe_callB call_len_seq (by rfl) B.len PySem.boot_len (pa_cons (pv 1) pa_nil)) (pe_glob (v := .int 5) rfl gm ⟨_, rfl⟩) (nomark _)))))
      (pss_one (ps_raiseX TC fl_value hr (L2N.takes_of rfl rfl rfl rfl) (pa_cons (pv 1) pa_nil) rfl))
      pss_nil)
      (pss_cons (ps_set (i := 2) sc_changed_by.nd rfl (Or.inl rfl) pe_dnewK)
      (pss_cons (ps_for (passes_of rfl) rfl (pi_list (pv 1)) (pg_name (i := 3) sc_changed_by.nd rfl (Or.inl rfl))
      (pss_cons (ps_if (PW.pt (pw_or (pt_not (pt_val (pe_cal c_is_change (hr.mono (by decide)) (by rfl) pass0 (pa_cons (pv 3) pa_nil)))) (pw_or1 (pt_cmpR (op_din (hu_of hr)) (pe_ix ix_tup (pv 3) pe_int (fun _ _ => rfl)) (pv 2) (by rfl)))))
        (pss_one (ps_raiseX TC fl_value hr (L2N.takes_of rfl rfl rfl rfl) (pa_cons (pv 3) pa_nil) rfl))
        pss_nil)
        (pss_one (ps_dput (hu_of hr) (pv 2) (pe_ix ix_tup (pv 3) pe_int (fun _ _ => rfl)) (pe_ix ix_tup (pv 3) pe_int (fun _ _ => rfl)) rfl))))
      (pss_one (ps_ret (pe_calKD c_changed hr pass0 (pv 0) (pv 2)))))))), ?_⟩
    rcases h with ⟨t, ty, hk, hz⟩ | ⟨b, hb, h⟩
    · exact ⟨_, rfl, v, rfl, .inr ⟨t, ty, hk, hz⟩⟩
    refine ⟨_, rfl, v, rfl, .inl ⟨b, hb, ?_⟩⟩
    rcases h with ⟨t, ty, hk, hz⟩ | ⟨a, xs, rfl, ha, h⟩
    · exact ⟨_, rfl, _, _, _, _, false, rfl, .ty "list", ty, hk, _, rfl, iteT ⟨_, rfl, _, rfl, hz.now⟩⟩
    refine ⟨_, rfl, _, _, _, _, true, rfl, .ty "list", .base (.lst ha), kit_ty (by decide +kernel), _, rfl, iteF ?_⟩
    refine ⟨_, rfl, a, _, rfl, .inl (SqL.of ha), _, _, rfl, rfl, _, rfl, ?_⟩
    rcases h with ⟨h5, hz⟩ | ⟨h5, n, ks, zs, G, h⟩
    · rw [decide_eq_true (show ((xs.length : Nat) : Int) > 5 by omega)]
      exact iteT ⟨_, rfl, _, rfl, hz.now⟩
    rw [decide_eq_false (show ¬ ((xs.length : Nat) : Int) > 5 by omega)]
    refine iteF ?_
    intro D hD
    have eD := Same.upd (o := .dK []) hD
    have hDa : a ≠ D := ne_of_none ha hD
    have hD0 : (upd H D (.dK [])) D = some (.dK []) := upd_same
    show tSeq _ _ _ [some v, some (.ref a), some (.ref D), none] (upd H D (.dK []))
    generalize (upd H D (.dK [])) = H0 at eD hD0
    refine ⟨_, rfl, a, rfl, ⟨_, SqL.of (eD _ _ ha)⟩, for_list (K := Z.K) (a := a) (xs := xs) (fun i σ H' => i ≤ n ∧ ∃ o, σ = [some v, some (.ref a), some (.ref D), o] ∧ H' D = some (.dK (kwK (ks.take i) (zs.take i))) ∧ Same H H') ⟨Nat.zero_le _, _, rfl, hD0, eD⟩ (fun i σ H' _ ⟨_, _, _, _, e⟩ => SqL.of (e _ _ ha)) ?_ ?_⟩
    · rintro i y σ H1 hy ⟨hin, o, rfl, hD1, e1⟩
      by_cases hlt : i < n
      · have hkl : i < ks.length := by rw [G.hk]; exact hlt
        have hzl : i < zs.length := by rw [G.hz]; exact hlt
        obtain ⟨t, ht1, ht2, ht3, ht4⟩ := G.at_ i _ _ (List.getElem?_eq_getElem hkl) (List.getElem?_eq_getElem hzl)
        obtain rfl : y = .ref t := Option.some.inj (hy.symm.trans ht1)
        have ht1' := e1 _ _ ht2
        refine ⟨_, rfl, _, true, rfl, .set ht1' ht3 (ht4.mono e1), fun H2 e2 => ⟨_, rfl, iteF ?_⟩⟩
        have ht2' := e2 _ _ ht1'
        have hD2 := e2 _ _ hD1
        have hno : ks[i] ∉ ks.take i := fun hm => by
          have hnd : (ks.take (i + 1)).Nodup := List.Sublist.nodup (List.take_sublist _ _) G.nd
          rw [List.take_succ, List.getElem?_eq_getElem hkl] at hnd
          exact (List.nodup_append.mp hnd).2.2 _ hm _ (by simp) rfl
        refine ⟨_, rfl, t, _, _, _, rfl, rfl, SqT.of ht2', rfl, _, rfl, D, _, rfl, DGet.k (k := .inr ks[i]) hD2, ?_⟩
        rw [kwK_no hno]
        refine ⟨_, rfl, iteF ?_⟩
        refine ⟨_, rfl, t, _, _, _, rfl, rfl, SqT.of ht2', rfl, _, rfl, _, rfl, t, _, _, _, rfl, rfl, SqT.of ht2', rfl, D, _, rfl, DPut.k (k := .inr ks[i]) hD2 (small1000' ?_), ?_⟩
        · unfold kwK
          rw [List.length_map, List.length_zip, List.length_take]
          have := (List.getElem?_eq_some_iff.mp hy).1
          omega
        refine ⟨hlt, _, rfl, ?_, fun c u hc => ?_⟩
        · rw [upd_same, kwK_take G.nd (List.getElem?_eq_getElem hkl) (List.getElem?_eq_getElem hzl)]
        · rw [upd_ne (ne_of_none hc hD)]
          exact e2 _ _ (e1 _ _ hc)
      · obtain rfl : i = n := by omega
        have hil := (List.getElem?_eq_some_iff.mp hy).1
        rcases h with ⟨x, hx, hbad, hz⟩ | ⟨hn, _⟩
        · obtain rfl : y = x := Option.some.inj (hy.symm.trans hx)
          rcases hbad with hc | ⟨t, k, z, rfl, ht, hk, hs⟩
          · exact ⟨_, rfl, _, false, rfl, hc.mono e1, fun H2 e2 => ⟨_, rfl, iteT ⟨_, rfl, _, rfl, (hz.later (e1.trans e2)).now⟩⟩⟩
          · have t1 : ks.take i = ks := List.take_of_length_le (by rw [G.hk]; exact Nat.le_refl _)
            have t2 : zs.take i = zs := List.take_of_length_le (by rw [G.hz]; exact Nat.le_refl _)
            rw [t1, t2] at hD1
            have hkF : k ∈ stF := by
              obtain ⟨j, hj⟩ := List.getElem?_of_mem hk
              have hj' := (List.getElem?_eq_some_iff.mp hj).1
              obtain ⟨_, _, _, h3, _⟩ := G.at_ j _ _ hj (List.getElem?_eq_getElem (show j < zs.length by rw [G.hz, ← G.hk]; exact hj'))
              exact h3
            refine ⟨_, rfl, _, true, rfl, .set (e1 _ _ ht) hkF (hs.mono e1), fun H2 e2 => ⟨_, rfl, iteF ?_⟩⟩
            refine ⟨_, rfl, t, _, _, _, rfl, rfl, SqT.of ((e1.trans e2) _ _ ht), rfl, _, rfl, D, _, rfl, DGet.k (k := .inr k) (e2 _ _ hD1), ?_⟩
            rw [kwK_has (G.hk.trans G.hz.symm) hk]
            exact ⟨_, rfl, iteT ⟨_, rfl, _, rfl, (hz.later (e1.trans e2)).now⟩⟩
        · omega
    · rintro σ H1 ⟨hin, o, rfl, hD1, e1⟩
      rcases h with ⟨x, hx, _⟩ | ⟨hn, kk⟩
      · have := (List.getElem?_eq_some_iff.mp hx).1
        omega
      · have t1 : ks.take xs.length = ks := List.take_of_length_le (by rw [G.hk, hn]; exact Nat.le_refl _)
        have t2 : zs.take xs.length = zs := List.take_of_length_le (by rw [G.hz, hn]; exact Nat.le_refl _)
        rw [t1, t2] at hD1
        obtain ⟨ba, bdx, bd, rfl, hba, hbs, hbo⟩ := id hb
        refine ⟨_, rfl, ba, bdx, _, rfl, e1 _ _ hba, rfl, fun q g p hq hp => ?_⟩
        have hpq : p ≠ q := fun z => by rw [z, upd_same] at hp; cases hp
        have hDq : D ≠ q := ne_of_none hD1 hq
        have hp1 : H1 p = none := by rw [upd_ne hpq] at hp; exact hp
        have hDp : D ≠ p := ne_of_none hD1 hp1
        have e3 : ∀ u, Same H1 (upd (upd (upd H1 q (.met g ba)) p (.dK [])) p u) := fun u c o hc => by
          rw [upd_ne (ne_of_none hc hp1), upd_ne (ne_of_none hc hp1), upd_ne (ne_of_none hc hq)]
          exact hc
        refine ⟨_, rfl, D, ks, zs, rfl, ?_, upd_same, ?_, hDp.symm, hpq, G.hk.trans G.hz.symm, ?_, ⟨G.nd, fun x hx => ?_, ?_⟩, kk _ (e1.trans (e3 _))⟩
        · rw [upd_ne hDp, upd_ne hDq]
          exact hD1
        · rw [upd_ne hpq.symm, upd_same]
        · rw [G.hk]; omega
        · obtain ⟨j, hj⟩ := List.getElem?_of_mem hx
          have hj' := (List.getElem?_eq_some_iff.mp hj).1
          obtain ⟨_, _, _, h3, _⟩ := G.at_ j _ _ hj (List.getElem?_eq_getElem (show j < zs.length by rw [G.hz, ← G.hk]; exact hj'))
          exact h3
        · rw [G.hk]; omega
end
end Ps

/-! A dict copied by its pairs. -/
namespace Ps
open PySem PySem.Spec PyProof.Rows PySem.W L2

theorem paired_of {R : Addr → Key × V → Prop} {ts : List Addr} {kvs : List (Key × V)} (hl : ts.length = kvs.length) (h : ∀ (j : Nat) (t : Addr), ts[j]? = some t → ∃ kv : Key × V, kvs[j]? = some kv ∧ R t kv) : Paired R ts kvs := by
  induction ts generalizing kvs with
  | nil =>
    cases kvs with
    | nil => exact .nil
    | cons kv r => cases hl
  | cons t r ih =>
    cases kvs with
    | nil => cases hl
    | cons kv kr =>
      obtain ⟨kv', h1, h2⟩ := h 0 t rfl
      obtain rfl : kv = kv' := Option.some.inj h1
      exact .cons h2 (ih (by simpa using hl) fun j t' ht => h (j + 1) t' ht)
/-- [(x, d[x]) for x in d] -/
theorem copy_pairs {K : Frag} {i j : Nat} {σ : L2.St} {H : Hp} {Q : VK} {a : Addr} {kvs : List (Key × V)} (hj : σ[j]? = some (some (.ref a))) (hij : i ≠ j) (hi : i < σ.length) (ha : H a = some (.dK kvs)) (hl : kvs.length ≤ 100) (hv : ∀ (n : Nat) (k : Key) (v : V), kvs[n]? = some (k, v) → valV kvs k = some v)
    (k : ∀ (D : Addr) (ts : List Addr) (H' : Hp), Same H H' → H' D = some (.lst (ts.map V.ref)) → Paired (fun p kv => SqT K H' p [kV kv.1, kv.2]) ts kvs → Q (.ref D) H') :
    tLockE (tLc (iKeys (tVar j)) (gName i) tYes (tTup (tCons (tVar i) (tCons (tDGet (tVar j) (tVar i)) tNil))) [i]) σ H Q := by
  refine ⟨a, _, ha, trivial, fun od => ?_⟩
  refine ⟨_, hj, a, od, rfl, .inl ⟨kvs, upd_same, fun D hD => ?_⟩⟩
  have haD : a ≠ D := ne_of_none upd_same hD
  refine lc_it (walk_keys (d := a) (o := od) (kvs := kvs)) (fun i H' => ∃ ts : List Addr, ts.length = i ∧ H' D = some (.lst (ts.map V.ref)) ∧ (∀ (j : Nat) (t : Addr), ts[j]? = some t → ∃ kv : Key × V, kvs[j]? = some kv ∧ H' t = some (.tup [kV kv.1, kv.2])) ∧ Same (upd H a (.frz od (.dK kvs))) H')
    ⟨[], rfl, upd_same, (fun j t h => by simp at h), Same.upd hD⟩ (fun i H' _ ⟨_, _, _, _, e⟩ => e _ _ upd_same) ?_ ?_
  · rintro n x H1 H2 hn ⟨ts, hts0, hD1, hts, e1⟩ ⟨rfl, k0, v0, hk0, rfl⟩
    have hw0 : wipe σ [i] = σ.set i none := rfl
    refine ⟨by rw [hw0]; show ((σ.set i none).set i _).set i none = _; rw [List.set_set, List.set_set], ?_⟩
    rw [hw0]
    have hg : DGet H2 a (kV k0) (some v0) := .inl ⟨kvs, k0, .inr ⟨od, e1 _ _ upd_same⟩, rfl, (hv _ _ _ hk0).symm⟩
    have gi : ((σ.set i none).set i (some (kV k0)))[i]? = some (some (kV k0)) := List.getElem?_set_self (by rw [List.length_set]; exact hi)
    have gj : ((σ.set i none).set i (some (kV k0)))[j]? = some (some (.ref a)) := by rw [List.getElem?_set_ne hij, List.getElem?_set_ne hij]; exact hj
    refine ⟨_, gi, _, gj, _, gi, a, v0, rfl, hg, (by show 2 ≤ sizeLine; decide), fun t ht => ?_⟩
    have et := Same.upd (o := .tup [kV k0, v0]) ht
    have htD : t ≠ D := fun z => by rw [z, hD1] at ht; cases ht
    refine ⟨_, et _ _ hD1, ?_, ts ++ [t], ?_, ?_, ?_, ?_⟩
    · rw [List.length_map]; exact small1000' (by omega)
    · rw [List.length_append, hts0]; rfl
    · rw [upd_same, List.map_append]; rfl
    · intro j t' hj
      by_cases hjl : j < ts.length
      · rw [List.getElem?_append_left hjl] at hj
        obtain ⟨kv, h1, h2⟩ := hts j t' hj
        refine ⟨kv, h1, ?_⟩
        rw [upd_ne (fun z => by rw [z, hD1] at h2; cases h2)]
        exact et _ _ h2
      · rw [List.getElem?_append_right (by omega)] at hj
        have hj0 : j = ts.length := by
          have := (List.getElem?_eq_some_iff.mp hj).1
          simp at this
          omega
        subst hj0
        simp at hj
        subst hj
        refine ⟨(k0, v0), by rw [hts0]; exact hk0, ?_⟩
        rw [upd_ne htD]
        exact upd_same
    · intro c o hc
      rw [upd_ne (ne_of_none hc hD)]
      exact et _ _ (e1 _ _ hc)
  rintro H1 ⟨ts, hts0, hD1, hts, e1⟩
  have e2 : Same H (upd H1 a (.dK kvs)) := lock_same ha e1
  refine ⟨e1 _ _ upd_same, k D ts _ e2 (by rw [upd_ne haD.symm]; exact hD1) (paired_of hts0 fun j t ht => ?_)⟩
  obtain ⟨kv, h1, h2⟩ := hts j t ht
  refine ⟨kv, h1, SqT.of ?_⟩
  rw [upd_ne (fun z => by rw [z, e1 _ _ upd_same] at h2; cases h2)]
  exact h2
/-! ### seven settings -/
theorem stL_val {t o f e s a k : V} (n : Nat) (x : Key) (v : V) (h : (stL t o f e s a k)[n]? = some (x, v)) : valV (stL t o f e s a k) x = some v := by
  rcases n with _ | _ | _ | _ | _ | _ | _ | n
  · cases h; rfl
  · cases h; rfl
  · cases h; rfl
  · cases h; rfl
  · cases h; rfl
  · cases h; rfl
  · cases h; rfl
  · exact absurd h (by simp [stL])
end Ps

/-! k77: changes drawn, made, put; errors told. -/
namespace Ps
open PySem PySem.Spec PyProof.Rows PySem.W L2

/-- a drawn change: the setting x of the plan pl -/
def ChAt (H : Hp) (v : V) (x : Str) (pl : Pl) : Prop := ∃ t w vf va, v = .ref t ∧ H t = some (.tup [.str x, w]) ∧ x ∈ stF ∧ valV (plL pl vf va) (.inr x) = some w ∧ FcV H vf pl.factor ∧ PAfV H va pl.after ∧ PlOk pl
theorem ChAt.tp {H H' : Hp} {v : V} {x : Str} {pl : Pl} (e : Tp H H') (h : ChAt H v x pl) : ChAt H' v x pl := by
  obtain ⟨t, w, vf, va, h1, h2, h3, h4, h5, h6, h7⟩ := h
  exact ⟨t, w, vf, va, h1, e _ _ h2, h3, h4, h5.mono e, h6.mono e, h7⟩
/-- the made value of the setting x of pl -/
def MV (C : Addr) (H : Hp) (x : Str) (w : V) (pl : Pl) : Prop := ∃ i, stF[i]? = some x ∧ KpR C H (bkOfPl pl) i w
theorem MV.mono {C : Addr} {H H' : Hp} {x : Str} {w : V} {pl : Pl} (e : Same H H') (h : MV C H x w pl) : MV C H' x w pl := by
  obtain ⟨i, h1, h2⟩ := h
  exact ⟨i, h1, h2.mono e⟩
def MdAt (C : Addr) (H : Hp) (v : V) (x : Str) (pl : Pl) : Prop := ∃ t w, v = .ref t ∧ H t = some (.tup [.str x, w]) ∧ MV C H x w pl ∧ PlOk pl
theorem MdAt.mono {C : Addr} {H H' : Hp} {v : V} {x : Str} {pl : Pl} (e : Same H H') (h : MdAt C H v x pl) : MdAt C H' v x pl := by
  obtain ⟨t, w, h1, h2, h3, h4⟩ := h
  exact ⟨t, w, h1, e _ _ h2, h3.mono e, h4⟩
theorem MV.mem {C : Addr} {H : Hp} {x : Str} {w : V} {pl : Pl} (h : MV C H x w pl) : x ∈ stF := by
  obtain ⟨i, h1, _⟩ := h
  exact List.mem_of_getElem? h1
theorem MV.st {K : Frag} {C : Addr} {H : Hp} {x : Str} {w : V} {pl : Pl} (ho : PlOk pl) (h : MV C H x w pl) : StB K C H x w true := by
  obtain ⟨i, h1, h2⟩ := h
  have hb := ho.bk
  rcases i with _ | _ | _ | _ | _ | _ | _ | i
  · obtain rfl := Option.some.inj h1
    obtain rfl : w = trV (bkOfPl pl).tries := h2
    exact tr_setting hb
  · obtain rfl := Option.some.inj h1
    exact .told (ab_true (.inl h2) hb.tz hb.tp)
  · obtain rfl := Option.some.inj h1
    have := StB.factor (K := K) (.inl h2) hb.fz
    rw [decide_eq_true hb.fp] at this
    exact this
  · obtain rfl := Option.some.inj h1
    obtain rfl : w = .bl (bkOfPl pl).equal := h2
    exact .flag (by simp) _
  · obtain rfl := Option.some.inj h1
    obtain rfl : w = .bl (bkOfPl pl).sliding := h2
    exact .flag (by simp) _
  · obtain rfl := Option.some.inj h1
    exact .after (af_setting (AfV.toA h2) hb.af)
  · obtain rfl := Option.some.inj h1
    obtain rfl : w = .bl (bkOfPl pl).keep := h2
    exact .flag (by simp) _
  · exact absurd (List.getElem?_eq_some_iff.mp h1).1 (by show ¬ i + 7 < 7; omega)
/-- the plan p with the setting x of q -/
def setPl (p : Pl) (x : Str) (q : Pl) : Pl := if x = "tries" then { p with tries := q.tries } else if x = "told" then { p with told := q.told } else if x = "factor" then { p with factor := q.factor } else if x = "equal" then { p with equal := q.equal } else if x = "sliding" then { p with sliding := q.sliding } else if x = "after" then { p with after := q.after } else { p with keep := q.keep }
theorem setPl_ok {p q : Pl} (x : Str) (hp : PlOk p) (hq : PlOk q) : PlOk (setPl p x q) := by
  unfold setPl
  split
  · exact ⟨hq.tr, hp.tl, hp.fc, hp.af⟩
  split
  · exact ⟨hp.tr, hq.tl, hp.fc, hp.af⟩
  split
  · exact ⟨hp.tr, hp.tl, hq.fc, hp.af⟩
  split
  · exact ⟨hp.tr, hp.tl, hp.fc, hp.af⟩
  split
  · exact ⟨hp.tr, hp.tl, hp.fc, hp.af⟩
  split
  · exact ⟨hp.tr, hp.tl, hp.fc, hq.af⟩
  · exact ⟨hp.tr, hp.tl, hp.fc, hp.af⟩
theorem pl_put {H : Hp} {p q : Pl} {x : Str} {w vf va vf2 va2 : V} (hx : x ∈ stF) (hw : valV (plL q vf2 va2) (.inr x) = some w) (hf : FcV H vf p.factor) (ha : PAfV H va p.after) (hf2 : FcV H vf2 q.factor) (ha2 : PAfV H va2 q.after) :
    ∃ vf3 va3, putK (plL p vf va) (.inr x) w = plL (setPl p x q) vf3 va3 ∧ FcV H vf3 (setPl p x q).factor ∧ PAfV H va3 (setPl p x q).after := by
  simp only [stF, List.mem_cons, List.not_mem_nil, or_false] at hx
  rcases hx with rfl | rfl | rfl | rfl | rfl | rfl | rfl
  · obtain rfl := Option.some.inj hw; exact ⟨vf, va, rfl, hf, ha⟩
  · obtain rfl := Option.some.inj hw; exact ⟨vf, va, rfl, hf, ha⟩
  · obtain rfl := Option.some.inj hw; exact ⟨vf2, va, rfl, hf2, ha⟩
  · obtain rfl := Option.some.inj hw; exact ⟨vf, va, rfl, hf, ha⟩
  · obtain rfl := Option.some.inj hw; exact ⟨vf, va, rfl, hf, ha⟩
  · obtain rfl := Option.some.inj hw; exact ⟨vf, va2, rfl, hf, ha2⟩
  · obtain rfl := Option.some.inj hw; exact ⟨vf, va, rfl, hf, ha⟩
def fieldsL : List Str := ["told", "tries", "factor", "after", "keep", "equal", "sliding"]
theorem pick_field {r : Int} (r0 : 0 ≤ r) (r1 : r < 7) : ∃ x, atI [V.str "told", .str "tries", .str "factor", .str "after", .str "keep", .str "equal", .str "sliding"] r = some (.str x) ∧ x ∈ stF := by
  rcases (show r = 0 ∨ r = 1 ∨ r = 2 ∨ r = 3 ∨ r = 4 ∨ r = 5 ∨ r = 6 by omega) with rfl | rfl | rfl | rfl | rfl | rfl | rfl <;> exact ⟨_, rfl, by decide +kernel⟩
def spCell (K : Frag) : Sp := fun vs H Q _ => ∃ (a : Addr) (ns : List Int) (i : Nat), vs = [.ref a, .int i] ∧ SqL K H a (ns.map V.int) ∧ i ≤ 1000 ∧ ∀ n, Q (.int n) H
def spChgOf : Sp := fun vs H Q _ => ∃ (p q : Addr) (ms : List Int) (i : Nat), vs = [.ref p] ∧ Pool H p q ms i ∧ i ≤ 800 ∧ ∀ v x pl H' j, Keep p H H' → Pool H' p q ms j → j ≤ i + 11 → ChAt H' v x pl → Q v H'
def spMChg (C : Addr) : Sp := fun vs H Q _ => ∃ v x pl, vs = [v] ∧ ChAt H v x pl ∧ ∀ u H', Same H H' → MdAt C H' u x pl → Q u H'
/-- the changes cs put into a plan -/
def withs (p : Pl) : List (Str × Pl) → Pl
  | [] => p
  | c :: r => withs (setPl p c.1 c.2) r
theorem withs_snoc (p : Pl) (c : Str × Pl) : ∀ (l : List (Str × Pl)), withs p (l ++ [c]) = setPl (withs p l) c.1 c.2
  | [] => rfl
  | d :: r => withs_snoc' p c d r
where withs_snoc' (p : Pl) (c d : Str × Pl) (r : List (Str × Pl)) : withs p ((d :: r) ++ [c]) = setPl (withs p (d :: r)) c.1 c.2 := withs_snoc (setPl p d.1 d.2) c r
def spWith : Sp := fun vs H Q _ => ∃ (a b : Addr) (pl : Pl) (vf va : V) (xs : List V) (cs : List (Str × Pl)), vs = [.ref a, .ref b] ∧ PlAt H a pl vf va ∧ PlOk pl ∧ H b = some (.lst xs) ∧ xs.length = cs.length ∧ xs.length ≤ 100 ∧ (∀ (j : Nat) (v : V) (c : Str × Pl), xs[j]? = some v → cs[j]? = some c → ChAt H v c.1 c.2) ∧
  ∀ f vf' va' H', Same H H' → PlAt H' f (withs pl cs) vf' va' → Q (.ref f) H'
section
variable {Z : Cz} {f C CB CA CC P fA fC : Addr} {fd : FuncData}
theorem ok_cell (F : Fun Z.K "_law_cell" "_law_cell" s_lw_cell f fd) (T : DrT Z) : Z.ok CX0 1 f fd ["_law_script", "_law_k"] (spCell Z.K) := by
  refine F.ok sc_lw_cell (fun vs H Q E h => ?_) (fun cdv A outer s H vs Q E hr h => ?_)
  · obtain ⟨a, ns, i, rfl, _⟩ := h
    rfl
  · obtain ⟨a, ns, i, rfl, hS, hi, k⟩ := h
    refine ⟨_, (pss_one (ps_ret (pe_ifExp (pt_cmpR op_lt (pv 1) (pe_callB call_len_seq (by rfl) T.len PySem.boot_len (pa_cons (pv 0) pa_nil)) (nomark _)) (pe_ix ix_list (pv 0) (pv 1) (fun _ _ => rfl)) (pe_op op_add (pe_op op_mul pe_int (pv 1)) pe_int)))), ?_⟩
    refine ⟨_, rfl, _, rfl, a, _, rfl, .inl hS, _, _, rfl, rfl, _, rfl, iteD (fun h => ?_) (fun h => ?_)⟩
    · have hlt : i < (ns.map V.int).length := by omega
      obtain ⟨n, hn⟩ : ∃ n, ns[i]? = some n := ⟨ns[i]'(by simpa using hlt), List.getElem?_eq_getElem _⟩
      refine ⟨_, rfl, _, rfl, a, _, _, _, rfl, rfl, hS, ?_, k n⟩
      have hl := (List.getElem?_eq_some_iff.mp hn).1
      unfold atI ixN
      rw [if_pos (by omega), if_pos (by omega)]
      simp [List.getElem?_map, hn]
    · exact ⟨_, rfl, _, _, rfl, rfl, .inl ⟨by decide, by decide⟩, _, _, rfl, rfl, k _⟩
theorem ok_change_of (F : Fun Z.K "_law_change_of" "_law_change_of" s_lw_change_of f fd) (c_lw_draw : CDraw Z) (c_lw_plan : Cal Z CX0 3 "_law_plan" ["_law_pool_here", "_law_most"] [] spLPlan) : Z.ok CX0 4 f fd ["_law_pool_here"] spChgOf := by
  refine F.ok sc_lw_change_of (fun vs H Q E h => ?_) (fun cdv A outer s H vs Q E hr h => ?_)
  · obtain ⟨p, q, ms, i, rfl, _⟩ := h
    rfl
  · obtain ⟨p, q, ms, i, rfl, P0, hi, k⟩ := h
    refine ⟨_, (pss_cons (ps_set (i := 1) sc_lw_change_of.nd rfl (Or.inl rfl) (pe_ix ix_list (pe_lst (pa_cons pe_str (pa_cons pe_str (pa_cons pe_str (pa_cons pe_str (pa_cons pe_str (pa_cons pe_str (pa_cons pe_str pa_nil)))))))) (pe_cal c_lw_draw (hr.mono (by decide)) (by rfl) pass0 (pa_cons (pv 0) (pa_cons pe_int pa_nil))) (fun _ _ => rfl)))
      (pss_one (ps_ret (pe_tup (pa_cons (pv 1) (pa_cons (pe_dget (hu_of hr) (pe_cal c_lw_plan (hr.mono (by decide)) (by rfl) pass0 (pa_cons (pv 0) (pa_cons pe_int pa_nil))) (pv 1) (fun _ _ => rfl)) pa_nil)))))), ?_⟩
    refine ⟨(by show 7 ≤ sizeLine; decide), fun L hL => ?_⟩
    have eL := Same.upd (o := .lst [.str "told", .str "tries", .str "factor", .str "after", .str "keep", .str "equal", .str "sliding"]) hL
    have PL := P0.mono eL
    have hLp : L ≠ p := fun z => by rw [z, P0.at_] at hL; cases hL
    refine ⟨_, rfl, p, q, ms, i, 7, rfl, PL, by decide, by omega, fun r H1 r0 r1 e1 P1 => ?_⟩
    obtain ⟨x, hx, hxF⟩ := pick_field r0 r1
    refine ⟨L, _, _, _, rfl, rfl, SqL.of (by rw [e1 L hLp]; exact upd_same), hx, ?_⟩
    refine ⟨_, rfl, _, rfl, p, q, ms, i + 1, 2, rfl, P1, by omega, by decide, by decide, fun ap H2 pl vf va j k2 ha P2 hj hpl hok => ?_⟩
    obtain ⟨w, hw⟩ : ∃ w, valV (plL pl vf va) (.inr x) = some w := by
      simp only [stF, List.mem_cons, List.not_mem_nil, or_false] at hxF
      rcases hxF with rfl | rfl | rfl | rfl | rfl | rfl | rfl <;> exact ⟨_, rfl⟩
    refine ⟨_, rfl, ap, w, rfl, pl_get hpl x hw, (by show 2 ≤ sizeLine; decide), fun t ht => ?_⟩
    have et := Same.upd (o := .tup [.str x, w]) ht
    exact k _ x pl _ j (((Keep.of_same eL).trans (Keep.of_eq e1)).trans (k2.trans (Keep.of_same et))) (P2.mono et) (by omega) ⟨t, w, vf, va, rfl, upd_same, hxF, hw, hpl.f.mono (Tp.of et), hpl.a.mono (Tp.of et), hok⟩
theorem ok_made_change (F : Fun Z.K "_law_made_change" "_law_made_change" s_lw_made_change f fd) (M : ShM Z C) (c_lw_made_after : CMAfter Z C) : Z.ok CX0 5 f fd ["_law_change"] (spMChg C) := by
  refine F.ok sc_lw_made_change (fun vs H Q E h => ?_) (fun cdv A outer s H vs Q E hr h => ?_)
  · obtain ⟨v, x, pl, rfl, _⟩ := h
    rfl
  · obtain ⟨v, x, pl, rfl, hc, k⟩ := h
    obtain ⟨t, w, vf, va, rfl, ht, hx, hw, hf, ha, hok⟩ := hc
    refine ⟨_, (pss_cons (ps_asg (pv 0) (pg_tup (by rfl) (pgs_cons (pg_name (i := 1) sc_lw_made_change.nd rfl (Or.inl rfl)) (pgs_cons (pg_name (i := 2) sc_lw_made_change.nd rfl (Or.inl rfl)) pgs_nil))))
      (pss_cons (ps_if (pt_cmpR op_eq (pv 1) pe_str (nomark _))
      (pss_one (ps_ret (pe_tup (pa_cons (pv 1) (pa_cons (pe_calC M.new (hr.mono (by decide)) (by rfl) pass0 (pa_cons (pv 2) (pa_cons pe_int pa_nil))) pa_nil)))))
      pss_nil)
      (pss_cons (ps_if (pt_cmpR op_eq (pv 1) pe_str (nomark _))
      (pss_one (ps_ret (pe_tup (pa_cons (pv 1) (pa_cons (pe_calC M.new (hr.mono (by decide)) (by rfl) pass0 (pa_cons (pe_ix ix_tup (pv 2) pe_int (fun _ _ => rfl)) (pa_cons (pe_ix ix_tup (pv 2) pe_int (fun _ _ => rfl)) pa_nil))) pa_nil)))))
      pss_nil)
      (pss_one (ps_ret (pe_tup (pa_cons (pv 1) (pa_cons (pe_ifExp (pt_cmpR op_eq (pv 1) pe_str (nomark _)) (pe_cal c_lw_made_after (hr.mono (by decide)) (by rfl) pass0 (pa_cons (pv 2) pa_nil)) (pv 2)) pa_nil)))))))), ?_⟩
    refine ⟨_, rfl, t, _, rfl, SqT.of ht, rfl, _, _, rfl, _, _, rfl, rfl, ?_⟩
    have plain : ∀ (i : Nat), stF[i]? = some x → KpR C H (bkOfPl pl) i w → ∀ p, H p = none → Q (.ref p) (upd H p (.tup [.str x, w])) := fun i hi hk p hp => k _ _ (Same.upd hp) ⟨p, w, rfl, upd_same, ⟨i, hi, hk.mono (Same.upd hp)⟩, hok⟩
    simp only [stF, List.mem_cons, List.not_mem_nil, or_false] at hx
    rcases hx with rfl | rfl | rfl | rfl | rfl | rfl | rfl
    · obtain rfl := Option.some.inj hw
      exact ⟨_, rfl, rfl, _, rfl, iteF ⟨_, rfl, rfl, _, rfl, iteF ⟨_, rfl, _, rfl, rfl, _, rfl, iteF ⟨_, rfl, (by show 2 ≤ sizeLine; decide), fun p hp => plain 0 rfl rfl p hp⟩⟩⟩⟩
    · obtain rfl := Option.some.inj hw
      refine ⟨_, rfl, rfl, _, rfl, iteT ⟨_, rfl, _, rfl, ?_⟩⟩
      intro x1 d1 hx1 hd1 hn1
      refine mk_shI (by decide) (by decide +kernel) hx1 hd1 hn1 fun H1 e1 z1 => ⟨rfl, (by show 2 ≤ sizeLine; decide), fun p hp => ?_⟩
      exact k _ _ (e1.trans (Same.upd hp)) ⟨p, _, rfl, upd_same, ⟨1, rfl, Sh.mono (Same.upd hp) z1⟩, hok⟩
    · obtain rfl := Option.some.inj hw
      obtain ⟨tf, rfl, htf⟩ := hf
      obtain ⟨f1, f2, f3, f4⟩ := factor_ok hok.fc
      refine ⟨_, rfl, rfl, _, rfl, iteF ⟨_, rfl, rfl, _, rfl, iteT ⟨_, rfl, _, rfl, tf, _, _, _, rfl, rfl, SqT.of htf, rfl, _, rfl, tf, _, _, _, rfl, rfl, SqT.of htf, rfl, ?_⟩⟩⟩
      intro x1 d1 hx1 hd1 hn1
      refine mk_shI f1 (lt_up (m := 10) (by omega) (by decide)) hx1 hd1 hn1 fun H1 e1 z1 => ⟨rfl, (by show 2 ≤ sizeLine; decide), fun p hp => ?_⟩
      exact k _ _ (e1.trans (Same.upd hp)) ⟨p, _, rfl, upd_same, ⟨2, rfl, Sh.mono (Same.upd hp) z1⟩, hok⟩
    · obtain rfl := Option.some.inj hw
      exact ⟨_, rfl, rfl, _, rfl, iteF ⟨_, rfl, rfl, _, rfl, iteF ⟨_, rfl, _, rfl, rfl, _, rfl, iteF ⟨_, rfl, (by show 2 ≤ sizeLine; decide), fun p hp => plain 3 rfl rfl p hp⟩⟩⟩⟩
    · obtain rfl := Option.some.inj hw
      exact ⟨_, rfl, rfl, _, rfl, iteF ⟨_, rfl, rfl, _, rfl, iteF ⟨_, rfl, _, rfl, rfl, _, rfl, iteF ⟨_, rfl, (by show 2 ≤ sizeLine; decide), fun p hp => plain 4 rfl rfl p hp⟩⟩⟩⟩
    · obtain rfl := Option.some.inj hw
      refine ⟨_, rfl, rfl, _, rfl, iteF ⟨_, rfl, rfl, _, rfl, iteF ⟨_, rfl, _, rfl, rfl, _, rfl, iteT ⟨_, rfl, va, _, rfl, ha, hok.af, fun w1 H1 e1 hw1 => ?_⟩⟩⟩⟩
      refine ⟨(by show 2 ≤ sizeLine; decide), fun p hp => ?_⟩
      exact k _ _ (e1.trans (Same.upd hp)) ⟨p, _, rfl, upd_same, ⟨5, rfl, AfV.mono (Same.upd hp) hw1⟩, hok⟩
    · obtain rfl := Option.some.inj hw
      exact ⟨_, rfl, rfl, _, rfl, iteF ⟨_, rfl, rfl, _, rfl, iteF ⟨_, rfl, _, rfl, rfl, _, rfl, iteF ⟨_, rfl, (by show 2 ≤ sizeLine; decide), fun p hp => plain 6 rfl rfl p hp⟩⟩⟩⟩
end
end Ps

/-! k77: changes put, errors told. -/
namespace Ps
open PySem PySem.Spec PyProof.Rows PySem.W L2

/-- the error that changed_by raises (true: BadChange) and its value -/
inductive ErrC (K : Frag) (C CB : Addr) (H : Hp) : V → V → Bool → V → Prop
  | arg {v w : V} {t : Value} (ty : TyX K H v t) (k : kitOne K t (.ref CB) = some false) : ErrC K C CB H v w false v
  | notl {v w : V} {b : Bk} {t : Value} (hb : BkAt C CB H v b) (ty : TyX K H w t) (k : kitOne K t (.type "list") = some false) : ErrC K C CB H v w true w
  | long {v : V} {b : Bk} {a : Addr} {xs : List V} (hb : BkAt C CB H v b) (ha : H a = some (.lst xs)) (hl : 5 < xs.length) : ErrC K C CB H v (.ref a) true (.ref a)
  | bad {v : V} {b : Bk} {a : Addr} {xs : List V} {n : Nat} {ks : List Str} {zs : List V} {x : V} (hb : BkAt C CB H v b) (ha : H a = some (.lst xs)) (hl : xs.length ≤ 5) (G : GoodC K C H xs n ks zs) (hx : xs[n]? = some x)
      (hbad : ChB K C H x false ∨ (∃ t k z, x = .ref t ∧ H t = some (.tup [.str k, z]) ∧ k ∈ ks ∧ StB K C H k z true)) : ErrC K C CB H v (.ref a) true x
def tagS : Bool → Str
  | true => "change"
  | false => "argument"
def spErr (K : Frag) (C CB : Addr) : Sp := fun vs H Q _ => ∃ v w tg x, vs = [v, w] ∧ ErrC K C CB H v w tg x ∧ ∀ t H', Same H H' → H' t = some (.tup [.str (tagS tg), x]) → Q (.ref t) H'
section
variable {Z : Cz} {f C CB CA CC P fA fC : Addr} {fd : FuncData}
theorem ok_with (F : Fun Z.K "_law_with" "_law_with" s_lw_with f fd) (md : Z.mg "dict" = none) : Z.ok CX0 1 f fd ["_law_plan_here", "_law_changes"] spWith := by
  refine F.ok sc_lw_with (fun vs H Q E h => ?_) (fun cdv A outer s H vs Q E hr h => ?_)
  · obtain ⟨a, b, pl, vf, va, xs, cs, rfl, _⟩ := h
    rfl
  · obtain ⟨a, b, pl, vf, va, xs, cs, rfl, hp, hok, hb, hl, h100, hc, k⟩ := h
    refine ⟨_, (pss_cons (ps_set (i := 2) sc_lw_with.nd rfl (Or.inl rfl) (pe_callTy (call_dictP rfl) (by rfl) md (by decide +kernel) (pa_cons (pe_lock (pe_lc (own := [("_law_field", 3)]) (g := gName 3) (tt := tYes) (by rfl) sc_lw_with.nd (pi_keys (pv 0)) (blkOk_by (own := [("_law_field", 3)]) (N := ["_law_plan_here", "_law_changes", "_law_found", "_law_field", "_law_value"]) (sc := defScope s_lw_with) (by decide +kernel)) (fun _ _ _ _ _ => (pg_name (i := 3) sc_lw_with.nd rfl (Or.inl rfl))) (fun _ _ _ _ _ => pts_nil) (fun _ _ _ _ _ => (pe_tup (pa_cons (pv 3) (pa_cons (pe_dget (hu_of hr) (pv 0) (pv 3) (fun _ _ => rfl)) pa_nil)))))) pa_nil)))
      (pss_cons (ps_for PassesOwn.never rfl (pi_list (pv 1)) (pg_tup (by rfl) (pgs_cons (pg_name (i := 3) sc_lw_with.nd rfl (Or.inl rfl)) (pgs_cons (pg_name (i := 4) sc_lw_with.nd rfl (Or.inl rfl)) pgs_nil)))
      (pss_one (ps_dput (hu_of hr) (pv 2) (pv 3) (pv 4) rfl)))
      (pss_one (ps_ret (pv 2))))), ?_⟩
    refine copy_pairs (K := Z.K) (a := a) (kvs := plL pl vf va) rfl (by decide) (by show 3 < 5; decide) hp.d (by show 7 ≤ 100; decide) stL_val fun D ts H1 e1 hD hpair => ?_
    refine ⟨D, ts, plL pl vf va, rfl, SqL.of hD, hpair, fun g hg => ?_⟩
    have e2 : Same H (upd H1 g (.dK (mergeK [] (plL pl vf va)))) := e1.trans (Same.upd hg)
    have hg0 : H g = none := e1.free hg
    have hg2 : (upd H1 g (.dK (mergeK [] (plL pl vf va)))) g = some (.dK (plL pl vf va)) := upd_same
    generalize (upd H1 g (.dK (mergeK [] (plL pl vf va)))) = H2 at e2 hg2
    have hp2 : PlAt H2 g pl vf va := ⟨hg2, hp.f.mono (Tp.of e2), hp.a.mono (Tp.of e2)⟩
    refine ⟨_, rfl, b, rfl, ⟨_, SqL.of (e2 _ _ hb)⟩, for_list (K := Z.K) (a := b) (xs := xs) (fun i σ H' => ∃ o3 o4 vf' va', σ = [some (.ref a), some (.ref b), some (.ref g), o3, o4] ∧ PlAt H' g (withs pl (cs.take i)) vf' va' ∧ Same H H') ⟨_, _, _, _, rfl, hp2, e2⟩ (fun i σ H' _ ⟨_, _, _, _, _, _, e⟩ => SqL.of (e _ _ hb)) ?_ ?_⟩
    · rintro i y σ H3 hy ⟨o3, o4, vf3, va3, rfl, hp3, e3⟩
      have hi := (List.getElem?_eq_some_iff.mp hy).1
      obtain ⟨c, hci⟩ : ∃ c, cs[i]? = some c := ⟨cs[i]'(by omega), List.getElem?_eq_getElem _⟩
      obtain ⟨t, w, vf4, va4, rfl, ht, hx, hw, hf4, ha4, hok4⟩ := (hc i y c hy hci).tp (Tp.of e3)
      refine ⟨t, _, rfl, SqT.of ht, rfl, _, _, rfl, _, _, rfl, rfl, ?_⟩
      obtain ⟨vf5, va5, hput, hf5, ha5⟩ := pl_put (p := withs pl (cs.take i)) hx hw hp3.f hp3.a hf4 ha4
      refine ⟨_, rfl, _, rfl, _, rfl, g, _, rfl, DPut.k (k := .inr c.1) hp3.d (by show 7 < sizeLine; decide), ?_⟩
      have e1 : cs.take (i + 1) = cs.take i ++ [c] := by rw [List.take_succ, hci]; rfl
      refine ⟨_, _, vf5, va5, rfl, ?_, fun c' u hc' => ?_⟩
      · rw [e1, withs_snoc]
        exact ⟨by rw [upd_same, hput], hf5.mono (Tp.upd hp3.d (fun _ z => nomatch z)), ha5.mono (Tp.upd hp3.d (fun _ z => nomatch z))⟩
      · rw [upd_ne (ne_of_none hc' hg0)]
        exact e3 _ _ hc'
    · rintro σ H3 ⟨o3, o4, vf3, va3, rfl, hp3, e3⟩
      rw [hl, List.take_length] at hp3
      exact ⟨_, rfl, k g vf3 va3 H3 e3 hp3⟩
theorem ok_error (F : Fun Z.K "_law_error" "_law_error" s_lw_error f fd) (TC : ExT Z.K Z.mg "BadChange" "value" "BadChange.__init__" CC P fC) (TA : ExT Z.K Z.mg "BadArgument" "value" "BadArgument.__init__" CA P fA)
    (eCC : exmOne Z.K (.ref CC) (.ref CC) = some true) (eAC : exmOne Z.K (.ref CA) (.ref CC) = some false) (eAA : exmOne Z.K (.ref CA) (.ref CA) = some true)
    (c_by : Cal Z (CXN Z) 14 "changed_by" ["book", "changes"] [] (spChBy Z.K C CB CA CC)) : Z.ok CX0 15 f fd ["_law_book", "_law_changes"] (spErr Z.K C CB) := by
  refine F.ok sc_lw_error (fun vs H Q E h => ?_) (fun cdv A outer s H vs Q E hr h => ?_)
  · obtain ⟨v, w, tg, x, rfl, _⟩ := h
    rfl
  · obtain ⟨v, w, tg, x, rfl, he, k⟩ := h
    have nd := sc_lw_error.nd
    refine ⟨_, PSs.nox (pss_cons (ps_tryN (Wout := fun _ _ _ _ => False) rfl rfl nd takesN0
        (fun W pn xe tk _ => pss_one (ps_expr (pe_calS c_by hr (by rfl) (fun σ => L2N.passAt tk σ) (pa_cons (pv 0) (pa_cons (pv 1) pa_nil)))))
        (HdsN.cons (i := 2) rfl rfl ⟨rfl, by decide, Or.inl TC.gC⟩ (fun a oe cls d pn hz hf => pss_one (ps_ret (pe_tup (pa_cons pe_str (pa_cons (pe_xf TC.xf TC.noN hz.zc hf (pv 2)) pa_nil)))))
        (HdsN.cons (i := 2) rfl rfl ⟨rfl, by decide, Or.inl TA.gC⟩ (fun a oe cls d pn hz hf => pss_one (ps_ret (pe_tup (pa_cons pe_str (pa_cons (pe_xf TA.xf TA.noN hz.zc hf (pv 2)) pa_nil))))) .nil)))
      (pss_one (ps_ret (pe_tup (pa_cons pe_str (pa_cons pe_non pa_nil)))))), ?_⟩
    have rc : ∀ {y : V}, tg = true → x = y → Rz CC "value" y H (fun cls d H' => wN Z.K (fun _ _ _ _ => False) { nx := tRet (tTup (tCons (tC (.str "none")) (tCons (tC .non) tNil))) { nx := fun _ H' => Q .non H', rt := Q }, rt := Q } [(.ref CC, 2, fun a cls d => tRet (tTup (tCons (tC (.str "change")) (tCons (tXf a cls d CC "value" (tVar 2)) tNil)))), (.ref CA, 2, fun a cls d => tRet (tTup (tCons (tC (.str "argument")) (tCons (tXf a cls d CA "value" (tVar 2)) tNil))))] cls d [some v, some w, none] H') := by
      intro y htg hxy d H' e hd hx'
      subst htg hxy
      refine ⟨true, eCC, fun _ a ha => ?_, fun z => by cases z⟩
      exact ⟨_, rfl, rfl, rfl, d, _, _, rfl, hx', lookup_one, (by show 2 ≤ sizeLine; decide), fun p hp => k p _ (e.trans (Same.upd hp)) upd_same⟩
    have ra : tg = false → Rz CA "value" x H (fun cls d H' => wN Z.K (fun _ _ _ _ => False) { nx := tRet (tTup (tCons (tC (.str "none")) (tCons (tC .non) tNil))) { nx := fun _ H' => Q .non H', rt := Q }, rt := Q } [(.ref CC, 2, fun a cls d => tRet (tTup (tCons (tC (.str "change")) (tCons (tXf a cls d CC "value" (tVar 2)) tNil)))), (.ref CA, 2, fun a cls d => tRet (tTup (tCons (tC (.str "argument")) (tCons (tXf a cls d CA "value" (tVar 2)) tNil))))] cls d [some v, some w, none] H') := by
      intro htg d H' e hd hx'
      subst htg
      refine ⟨false, eAC, (fun z => by cases z), fun _ => ⟨true, eAA, fun _ a ha => ?_, fun z => by cases z⟩⟩
      exact ⟨_, rfl, rfl, rfl, d, _, _, rfl, hx', lookup_one, (by show 2 ≤ sizeLine; decide), fun p hp => k p _ (e.trans (Same.upd hp)) upd_same⟩
    refine ⟨_, rfl, _, rfl, v, w, rfl, ?_⟩
    cases he with
    | arg ty hk => exact .inl ⟨_, ty, hk, ra rfl⟩
    | notl hb ty hk => exact .inr ⟨_, hb, .inl ⟨_, ty, hk, rc rfl rfl⟩⟩
    | long hb ha hl => exact .inr ⟨_, hb, .inr ⟨_, _, rfl, ha, .inl ⟨hl, rc rfl rfl⟩⟩⟩
    | bad hb ha hl G hx hbad => exact .inr ⟨_, hb, .inr ⟨_, _, rfl, ha, .inr ⟨hl, _, _, _, G, .inl ⟨_, hx, hbad, rc rfl rfl⟩⟩⟩⟩
end
end Ps

/-! x != []; one and the same object. -/
namespace Ps
open PySem PySem.Spec PyProof.Rows PySem.W L2
section
variable {X : Cx}
/-- one and the same object -/
def DSame : Eqb := fun x y b _ => ∃ a, x = .ref a ∧ y = .ref a ∧ b = true
theorem mon_same : MonB DSame := fun _ _ _ _ _ _ d => d
theorem eqB_same : EqB X 0 DSame := by
  intro A pins s σ H x y b u v sb I rx ry d
  obtain ⟨a, rfl, rfl, rfl⟩ := d
  cases rx
  cases ry
  exact SeqAt.EqAt.same (A := A) (s := s) (.ref a) X.prog X.w X.xe _ ⟨rfl, H, I, Same.refl _⟩
def DSF : Eqb := fun x y b H => DFl x y b H ∨ DSame x y b H
theorem mon_sf : MonB DSF := mon_fl.or mon_same
theorem eqB_sf : EqB X 0 DSF := eqB_fl.or eqB_same
/-- x != [] -/
def rNeNil (K : Frag) : R2 := fun x y H Q => ∃ l, y = .ref l ∧ SqL K H l [] ∧ ((∃ a xs, x = .ref a ∧ SqL K H a xs ∧ xs ≠ []) ∨ (∃ a xs, x = .ref a ∧ SqT K H a xs) ∨ x = .non ∨ (∃ z, x = .str z)) ∧ Q (.bl true) H
theorem op_neNil (hu : X.A.units < cLine) : OpR X (compareOp .NotEq) (rNeNil X.K) := by
  intro pins s σ H x y v u Q I rx ry h
  obtain ⟨l, rfl, hl, h, q⟩ := h
  cases (show u = Value.ref l from ry)
  obtain ⟨its, r0, p0, _⟩ := I.list hl
  cases r0
  show wpAny _ _ (richCompare .NotEq v (.ref l)) _ _ _
  rcases h with ⟨a, xs, rfl, ha, hx⟩ | ⟨a, xs, rfl, ha⟩ | rfl | ⟨z, rfl⟩
  · cases (show v = Value.ref a from rx)
    obtain ⟨its2, r2, p2, _⟩ := I.list ha
    have h0 : (its2.toArray.size != ([] : List Value).toArray.size) = true := by
      have := r2.length
      cases xs with
      | nil => exact absurd rfl hx
      | cons x r =>
        simp only [List.length_cons] at this
        simp [← this]
    exact SeqAt.RcNeAt.lists_lengths p2.isList p0.isList h0 hu X.prog X.w X.xe _ ⟨.bl true, H, I, rfl, q⟩
  · cases (show v = Value.ref a from rx)
    obtain ⟨its2, r2, p2, _⟩ := I.tuple ha
    exact SeqAt.RcNeAt.tuple_list p2 p0.isList hu X.prog X.w X.xe _ ⟨.bl true, H, I, rfl, q⟩
  · cases (show v = Value.none from rx)
    exact SeqAt.RcNeAt.none_list p0.isList hu X.prog X.w X.xe _ ⟨.bl true, H, I, rfl, q⟩
  · obtain ⟨t, rfl⟩ := rx
    exact SeqAt.RcNeAt.str_list z t p0.isList hu X.prog X.w X.xe _ ⟨.bl true, H, I, rfl, q⟩
end
end Ps

/-! k77: the plain side. -/
namespace Ps
open PySem PySem.Spec PyProof.Rows PySem.W L2

/-- kvs are the settings of b -/
def StsV (C : Addr) (H : Hp) (b : Bk) (kvs : List (Key × V)) : Prop := ∃ vo vf va, kvs = stL (trV b.tries) vo vf (.bl b.equal) (.bl b.sliding) va (.bl b.keep) ∧ Sh C H vo b.told ∧ Sh C H vf b.factor ∧ AfV C H va b.after
theorem StsV.put {C : Addr} {H : Hp} {p q : Pl} {kvs : List (Key × V)} {x : Str} {w : V} (h : StsV C H (bkOfPl p) kvs) (hm : MV C H x w q) : StsV C H (bkOfPl (setPl p x q)) (putK kvs (.inr x) w) := by
  obtain ⟨vo, vf, va, rfl, h1, h2, h3⟩ := h
  obtain ⟨i, hi, hk⟩ := hm
  rcases i with _ | _ | _ | _ | _ | _ | _ | i
  · obtain rfl := Option.some.inj hi
    obtain rfl : w = trV (bkOfPl q).tries := hk
    exact ⟨vo, vf, va, rfl, h1, h2, h3⟩
  · obtain rfl := Option.some.inj hi
    exact ⟨w, vf, va, rfl, hk, h2, h3⟩
  · obtain rfl := Option.some.inj hi
    exact ⟨vo, w, va, rfl, h1, hk, h3⟩
  · obtain rfl := Option.some.inj hi
    obtain rfl : w = .bl (bkOfPl q).equal := hk
    exact ⟨vo, vf, va, rfl, h1, h2, h3⟩
  · obtain rfl := Option.some.inj hi
    obtain rfl : w = .bl (bkOfPl q).sliding := hk
    exact ⟨vo, vf, va, rfl, h1, h2, h3⟩
  · obtain rfl := Option.some.inj hi
    exact ⟨vo, vf, w, rfl, h1, h2, hk⟩
  · obtain rfl := Option.some.inj hi
    obtain rfl : w = .bl (bkOfPl q).keep := hk
    exact ⟨vo, vf, va, rfl, h1, h2, h3⟩
  · exact absurd (List.getElem?_eq_some_iff.mp hi).1 (by show ¬ i + 7 < 7; omega)
/-- the made values zs of the changes cs -/
def MVs (C : Addr) (H : Hp) : List (Str × Pl) → List V → Prop
  | [], [] => True
  | c :: cs, z :: zs => MV C H c.1 z c.2 ∧ MVs C H cs zs
  | _, _ => False
theorem StsV.all {C : Addr} {H : Hp} : ∀ {cs : List (Str × Pl)} {zs : List V} {p : Pl} {kvs : List (Key × V)}, StsV C H (bkOfPl p) kvs → MVs C H cs zs → StsV C H (bkOfPl (withs p cs)) (mergeK kvs (kwK (cs.map (·.1)) zs))
  | [], [], p, kvs, h, _ => h
  | c :: cs, z :: zs, p, kvs, h, hm => StsV.all (cs := cs) (zs := zs) (p := setPl p c.1 c.2) (kvs := putK kvs (.inr c.1) z) (h.put hm.1) hm.2
  | [], _ :: _, _, _, _, hm => hm.elim
  | _ :: _, [], _, _, _, hm => hm.elim
theorem withs_ok {p : Pl} (hp : PlOk p) : ∀ {cs : List (Str × Pl)}, (∀ c ∈ cs, PlOk c.2) → PlOk (withs p cs)
  | [], _ => hp
  | c :: cs, h => withs_ok (setPl_ok c.1 hp (h c List.mem_cons_self)) (cs := cs) fun d hd => h d (List.mem_cons_of_mem _ hd)
theorem MVs.mono {C : Addr} {H H' : Hp} (e : Same H H') : ∀ {cs : List (Str × Pl)} {zs : List V}, MVs C H cs zs → MVs C H' cs zs
  | [], [], _ => trivial
  | _ :: _, _ :: _, h => ⟨h.1.mono e, MVs.mono e h.2⟩
  | [], _ :: _, h => h.elim
  | _ :: _, [], h => h.elim
theorem MVs.length {C : Addr} {H : Hp} : ∀ {cs : List (Str × Pl)} {zs : List V}, MVs C H cs zs → zs.length = cs.length
  | [], [], _ => rfl
  | _ :: _, _ :: _, h => by simp [MVs.length h.2]
  | [], _ :: _, h => h.elim
  | _ :: _, [], h => h.elim
/-- changed by all of them -/
theorem kg_all {C CB : Addr} {H : Hp} {v : V} {p : Pl} {cs : List (Str × Pl)} {zs : List V} {Q : VK} {E : XK} (hb : BkAt C CB H v (bkOfPl p)) (hp : PlOk p) (hc : ∀ c ∈ cs, PlOk c.2 ∧ c.1 ∈ stF) (hm : MVs C H cs zs) (hl : cs.length ≤ 10) (k : ∀ u H', Same H H' → BkAt C CB H' u (bkOfPl (withs p cs)) → Q u H') : spKG C CB (cs.map (·.1)) v zs H Q E := by
  obtain ⟨a, dx, ds, rfl, ha, ⟨vo, vf, va, hds, h1, h2, h3⟩, hok⟩ := hb
  refine ⟨by rw [List.length_map]; omega, fun d hd => ?_⟩
  have e := Same.upd (o := .dK (kwK (cs.map (·.1)) zs)) hd
  obtain ⟨wo, wf, wa, hmer, g1, g2, g3⟩ := StsV.all (cs := cs) (zs := zs) (p := p) ⟨vo, vf, va, rfl, h1, h2, h3⟩ hm
  have hwok := withs_ok hp (cs := cs) fun c hc' => (hc c hc').1
  refine ⟨a, dx, ds, d, _, bkOfPl p, bkOfPl (withs p cs), vo, vf, va, wo, wf, wa, rfl, e _ _ ha, e _ _ hds, upd_same, ?_, fun kv hkv => ?_, hmer, ⟨hwok.bk, .inl (g1.mono e), .inl (g2.mono e), (g3.mono e).toA⟩, fun u H' e' h => k u H' (e.trans e') h⟩
  · unfold kwK
    rw [List.length_map, List.length_zip, List.length_map]
    exact Nat.le_trans (Nat.min_le_left _ _) hl
  · unfold kwK at hkv
    obtain ⟨q, hq, rfl⟩ := List.mem_map.mp hkv
    obtain ⟨c, hc', hq1⟩ := List.mem_map.mp (List.of_mem_zip hq).1
    exact ⟨q.1, by rw [← hq1]; exact (hc c hc').2, rfl⟩
/-- the made changes ms of cs -/
def Mds (C : Addr) (H : Hp) : List V → List (Str × Pl) → Prop
  | [], [] => True
  | m :: ms, c :: cs => MdAt C H m c.1 c.2 ∧ Mds C H ms cs
  | _, _ => False
theorem Mds.mono {C : Addr} {H H' : Hp} (e : Same H H') : ∀ {ms : List V} {cs : List (Str × Pl)}, Mds C H ms cs → Mds C H' ms cs
  | [], [], _ => trivial
  | _ :: _, _ :: _, h => ⟨h.1.mono e, Mds.mono e h.2⟩
  | [], _ :: _, h => h.elim
  | _ :: _, [], h => h.elim
theorem Mds.length {C : Addr} {H : Hp} : ∀ {ms : List V} {cs : List (Str × Pl)}, Mds C H ms cs → ms.length = cs.length
  | [], [], _ => rfl
  | _ :: _, _ :: _, h => by simp [Mds.length h.2]
  | [], _ :: _, h => h.elim
  | _ :: _, [], h => h.elim
theorem Mds.snoc {C : Addr} {H : Hp} {m : V} {c : Str × Pl} (hm : MdAt C H m c.1 c.2) : ∀ {ms : List V} {cs : List (Str × Pl)}, Mds C H ms cs → Mds C H (ms ++ [m]) (cs ++ [c])
  | [], [], _ => ⟨hm, trivial⟩
  | _ :: _, _ :: _, h => ⟨h.1, Mds.snoc hm h.2⟩
  | [], _ :: _, h => h.elim
  | _ :: _, [], h => h.elim
theorem Mds.get {C : Addr} {H : Hp} : ∀ {ms : List V} {cs : List (Str × Pl)} {i : Nat} {c : Str × Pl}, Mds C H ms cs → cs[i]? = some c → ∃ m, ms[i]? = some m ∧ MdAt C H m c.1 c.2
  | _ :: _, _ :: _, 0, c, h, e => ⟨_, rfl, by obtain rfl := Option.some.inj e; exact h.1⟩
  | _ :: _, _ :: _, i + 1, c, h, e => Mds.get (i := i) h.2 e
  | [], [], _, _, _, e => by simp at e
  | [], _ :: _, _, _, h, _ => h.elim
  | _ :: _, [], _, _, h, _ => h.elim
/-- the values of made changes -/
theorem Mds.vals {C : Addr} {H : Hp} : ∀ {ms : List V} {cs : List (Str × Pl)}, Mds C H ms cs → ∃ zs, MVs C H cs zs ∧ ∀ (j : Nat) (c : Str × Pl) (z : V), cs[j]? = some c → zs[j]? = some z → ∃ t, ms[j]? = some (.ref t) ∧ H t = some (.tup [.str c.1, z]) ∧ MV C H c.1 z c.2 ∧ PlOk c.2
  | [], [], _ => ⟨[], trivial, fun j c z e _ => by simp at e⟩
  | m :: ms, c :: cs, h => by
    obtain ⟨t, w, rfl, h2, h3, h4⟩ := h.1
    obtain ⟨zs, g1, g2⟩ := Mds.vals h.2
    refine ⟨w :: zs, ⟨h3, g1⟩, fun j c' z e1 e2 => ?_⟩
    cases j with
    | zero =>
      obtain rfl := Option.some.inj e1
      obtain rfl := Option.some.inj e2
      exact ⟨t, rfl, h2, h3, h4⟩
    | succ j => exact g2 j c' z e1 e2
  | [], _ :: _, h => h.elim
  | _ :: _, [], h => h.elim
/-- made changes with distinct names are good, whatever stands behind them -/
theorem Mds.good {K : Frag} {C : Addr} {H : Hp} {ms : List V} {cs : List (Str × Pl)} (h : Mds C H ms cs) (nd : (cs.map (·.1)).Nodup) (rest : List V) : ∃ zs, MVs C H cs zs ∧ GoodC K C H (ms ++ rest) cs.length (cs.map (·.1)) zs := by
  obtain ⟨zs, g1, g2⟩ := h.vals
  refine ⟨zs, g1, ⟨List.length_map .., g1.length, nd, fun j k z hk hz => ?_⟩⟩
  rw [List.getElem?_map] at hk
  obtain ⟨c, hc, rfl⟩ := Option.map_eq_some_iff.mp hk
  obtain ⟨t, a1, a2, a3, a4⟩ := g2 j c z hc hz
  refine ⟨t, ?_, a2, a3.mem, a3.st a4⟩
  rw [List.getElem?_append_left (List.getElem?_eq_some_iff.mp a1).1]
  exact a1
end Ps

/-! k77: names that come again. -/
namespace Ps
open PySem PySem.Spec PyProof.Rows PySem.W L2

/-- the k-th name came before -/
def rep (fs : List Str) (k : Nat) : Bool := match fs[k]? with
  | some x => decide (x ∈ fs.take k)
  | none => false
theorem rep_at {fs : List Str} {k : Nat} {x : Str} (h : fs[k]? = some x) : rep fs k = decide (x ∈ fs.take k) := by
  unfold rep
  rw [h]
theorem nodup_take {fs : List Str} : ∀ {n : Nat}, n ≤ fs.length → (∀ j, j < n → rep fs j = false) → (fs.take n).Nodup
  | 0, _, _ => by simp
  | n + 1, hn, h => by
    have hx : fs[n]? = some fs[n] := List.getElem?_eq_getElem (by omega)
    have e : fs.take (n + 1) = fs.take n ++ [fs[n]] := by rw [List.take_succ, hx]; rfl
    rw [e, List.nodup_append]
    refine ⟨nodup_take (by omega) fun j hj => h j (by omega), by simp, fun a ha b hb => ?_⟩
    have hb' : b = fs[n] := by simpa using hb
    subst hb'
    have := h n (by omega)
    rw [rep_at hx] at this
    exact fun z => of_decide_eq_false this (z ▸ ha)
def ags (fs : List Str) (n : Nat) : List Nat := (List.range n).filter (rep fs)
theorem ags_succ (fs : List Str) (n : Nat) : ags fs (n + 1) = ags fs n ++ (if rep fs n then [n] else []) := by
  unfold ags
  rw [List.range_succ, List.filter_append]
  congr 1
  simp only [List.filter_cons, List.filter_nil]
theorem ags_nil {fs : List Str} (h : ags fs fs.length = []) : fs.Nodup := by
  have := nodup_take (fs := fs) (Nat.le_refl _) fun j hj => by
    cases hr : rep fs j with
    | false => rfl
    | true =>
      have : j ∈ ags fs fs.length := List.mem_filter.mpr ⟨List.mem_range.mpr hj, hr⟩
      rw [h] at this
      cases this
  rwa [List.take_length] at this
theorem ags_first {fs : List Str} {a : Nat} {r : List Nat} : ∀ {n : Nat}, ags fs n = a :: r → a < n ∧ rep fs a = true ∧ ∀ j, j < a → rep fs j = false
  | 0, h => by cases h
  | n + 1, h => by
    rw [ags_succ] at h
    cases hn : ags fs n with
    | nil =>
      rw [hn, List.nil_append] at h
      cases hr : rep fs n with
      | false => rw [hr] at h; cases h
      | true =>
        rw [hr] at h
        cases h
        refine ⟨Nat.lt_succ_self _, hr, fun j hj => ?_⟩
        cases hj' : rep fs j with
        | false => rfl
        | true =>
          have : j ∈ ags fs a := List.mem_filter.mpr ⟨List.mem_range.mpr hj, hj'⟩
          rw [hn] at this
          cases this
    | cons b t =>
      rw [hn, List.cons_append] at h
      cases h
      obtain ⟨h1, h2, h3⟩ := ags_first hn
      exact ⟨Nat.lt_succ_of_lt h1, h2, h3⟩
/-- items whose names come for the first time -/
def firsts {α : Type} (fs : List Str) (xs : List α) (n : Nat) : List α := ((List.range n).filter fun k => !rep fs k).filterMap fun k => xs[k]?
theorem firsts_succ {α : Type} (fs : List Str) (xs : List α) (n : Nat) : firsts fs xs (n + 1) = firsts fs xs n ++ (if rep fs n then [] else (xs[n]?).toList) := by
  unfold firsts
  rw [List.range_succ, List.filter_append, List.filterMap_append]
  congr 1
  cases hr : rep fs n with
  | true => simp [List.filter_cons, hr]
  | false =>
    simp only [List.filter_cons, hr, Bool.not_false, if_true, List.filter_nil, List.filterMap_cons, List.filterMap_nil]
    cases xs[n]? <;> rfl
theorem firsts_len {α : Type} (fs : List Str) (xs : List α) : ∀ n, (firsts fs xs n).length ≤ n
  | 0 => by simp [firsts]
  | n + 1 => by
    rw [firsts_succ, List.length_append]
    have := firsts_len fs xs n
    split
    · simp; omega
    · have : (xs[n]?).toList.length ≤ 1 := by cases h : xs[n]? <;> simp [h]
      omega
theorem firsts_sub {cs : List (Str × Pl)} : ∀ {n : Nat} {c : Str × Pl}, c ∈ firsts (cs.map (·.1)) cs n → ∃ j, j < n ∧ cs[j]? = some c := by
  intro n c h
  obtain ⟨j, hj, he⟩ := List.mem_filterMap.mp h
  exact ⟨j, List.mem_range.mp (List.mem_filter.mp hj).1, he⟩
theorem firsts_nd {cs : List (Str × Pl)} : ∀ {n : Nat}, n ≤ cs.length → ((firsts (cs.map (·.1)) cs n).map (·.1)).Nodup
  | 0, _ => by simp [firsts]
  | n + 1, hn => by
    rw [firsts_succ]
    have ih := firsts_nd (cs := cs) (n := n) (by omega)
    split
    · rw [List.append_nil]; exact ih
    · rename_i hr
      have hx : cs[n]? = some cs[n] := List.getElem?_eq_getElem (by omega)
      rw [hx, List.map_append, List.nodup_append]
      refine ⟨ih, by simp, fun a ha b hb => ?_⟩
      have hb' : b = cs[n].1 := by simpa using hb
      subst hb'
      intro z
      obtain ⟨c, hc, hca⟩ := List.mem_map.mp ha
      obtain ⟨j, hj, hje⟩ := firsts_sub hc
      have hfx : (cs.map (·.1))[n]? = some cs[n].1 := by rw [List.getElem?_map, hx]; rfl
      rw [rep_at hfx] at hr
      apply hr
      refine decide_eq_true ?_
      rw [← z, ← hca]
      have : ((cs.map (·.1)).take n)[j]? = some c.1 := by rw [List.getElem?_take, if_pos hj, List.getElem?_map, hje]; rfl
      exact List.mem_of_getElem? this
theorem firsts_mds {C : Addr} {H : Hp} {fs : List Str} {ms : List V} {cs : List (Str × Pl)} (h : Mds C H ms cs) : ∀ n, n ≤ cs.length → Mds C H (firsts fs ms n) (firsts fs cs n)
  | 0, _ => trivial
  | n + 1, hn => by
    rw [firsts_succ, firsts_succ]
    have ih := firsts_mds (fs := fs) h n (by omega)
    have hx : cs[n]? = some cs[n] := List.getElem?_eq_getElem (by omega)
    obtain ⟨m, hm, hd⟩ := h.get hx
    split
    · rw [List.append_nil, List.append_nil]; exact ih
    · rw [hx, hm]
      exact ih.snoc hd
theorem inV_str {x : Str} {l : List Str} : inV (.str x) (l.map V.str) = decide (x ∈ l) := by
  unfold inV
  rw [List.any_map]
  have : ((fun y => eqV y (.str x)) ∘ V.str) = fun y => decide (y = x) := by
    funext y
    show (y == x) = decide (y = x)
    by_cases h : y = x
    · rw [h]; simp
    · rw [decide_eq_false h]; exact beq_eq_false_iff_ne.mpr h
  rw [this]
  induction l with
  | nil => simp
  | cons a r ih =>
    rw [List.any_cons, ih]
    by_cases h : a = x
    · subst h; simp
    · have h' : ¬ x = a := fun z => h z.symm
      simp [h, h']
theorem inV_int {k : Nat} {l : List Nat} : inV (.int k) (l.map fun j => V.int (j : Nat)) = decide (k ∈ l) := by
  unfold inV
  rw [List.any_map]
  have : ((fun y => eqV y (.int k)) ∘ fun j : Nat => V.int (j : Nat)) = fun y : Nat => decide (y = k) := by
    funext y
    show ((y : Int) == (k : Int)) = decide (y = k)
    by_cases h : y = k
    · rw [h]; simp
    · rw [decide_eq_false h]; exact beq_eq_false_iff_ne.mpr (fun z => h (by omega))
  rw [this]
  induction l with
  | nil => simp
  | cons a r ih =>
    rw [List.any_cons, ih]
    by_cases h : a = k
    · subst h; simp
    · have h' : ¬ k = a := fun z => h z.symm
      simp [h, h']
theorem mem_ags {fs : List Str} {k n : Nat} (h : k < n) : decide (k ∈ ags fs n) = rep fs k := by
  cases hr : rep fs k with
  | true => exact decide_eq_true (List.mem_filter.mpr ⟨List.mem_range.mpr h, hr⟩)
  | false => exact decide_eq_false fun hm => by rw [(List.mem_filter.mp hm).2] at hr; cases hr
end Ps

/-! Values while lists and dicts change. -/
namespace Ps
open PySem PySem.Spec PyProof.Rows PySem.W L2

/-- lists stay lists, dicts stay dicts, all else stays -/
def KK (H H' : Hp) : Prop := ∀ c o, H c = some o → H' c = some o ∨ (∃ xs ys, o = .lst xs ∧ H' c = some (.lst ys)) ∨ (∃ k l, o = .dK k ∧ H' c = some (.dK l))
theorem KK.of {H H' : Hp} (e : Same H H') : KK H H' := fun c o h => .inl (e c o h)
theorem KK.trans {H H1 H2 : Hp} (a : KK H H1) (b : KK H1 H2) : KK H H2 := fun c o h => by
  rcases a c o h with h1 | ⟨xs, ys, rfl, h1⟩ | ⟨k, l, rfl, h1⟩
  · exact b c o h1
  · rcases b c _ h1 with h2 | ⟨_, zs, _, h2⟩ | ⟨_, _, z, _⟩
    · exact .inr (.inl ⟨_, _, rfl, h2⟩)
    · exact .inr (.inl ⟨_, _, rfl, h2⟩)
    · cases z
  · rcases b c _ h1 with h2 | ⟨_, _, z, _⟩ | ⟨_, m, _, h2⟩
    · exact .inr (.inr ⟨_, _, rfl, h2⟩)
    · cases z
    · exact .inr (.inr ⟨_, _, rfl, h2⟩)
theorem KK.keep {H H' : Hp} {p : Addr} {xs ys : List V} (k : Keep p H H') (h : H p = some (.lst xs)) (h' : H' p = some (.lst ys)) : KK H H' := fun c o hc => by
  by_cases z : c = p
  · subst z
    rw [h] at hc
    cases hc
    exact .inr (.inl ⟨_, _, rfl, h'⟩)
  · exact .inl (k c z o hc)
theorem KK.dput {H : Hp} {d : Addr} {k l : List (Key × V)} (h : H d = some (.dK k)) : KK H (upd H d (.dK l)) := fun c o hc => by
  by_cases z : c = d
  · subst z
    rw [h] at hc
    cases hc
    exact .inr (.inr ⟨_, _, rfl, upd_same⟩)
  · exact .inl (by rw [upd_ne z]; exact hc)
section
variable {K : Frag} {C : Addr} {H H' : Hp} {v : V} {b : Bool}
theorem KK.tup (e : KK H H') {a : Addr} {xs : List V} (h : H a = some (.tup xs)) : H' a = some (.tup xs) := by
  rcases e a _ h with h | ⟨_, _, z, _⟩ | ⟨_, _, z, _⟩
  · exact h
  · cases z
  · cases z
theorem KK.ins (e : KK H H') {a C dx : Addr} {fs : List (Str × V)} (h : H a = some (.ins C dx fs)) : H' a = some (.ins C dx fs) := by
  rcases e a _ h with h | ⟨_, _, z, _⟩ | ⟨_, _, z, _⟩
  · exact h
  · cases z
  · cases z
theorem KK.nb (e : KK H H') {q : Int × Int} (h : Nb C H v q) : Nb C H' v q := by
  rcases h with ⟨a, dx, h1, h2⟩ | h
  · exact .inl ⟨a, dx, h1, e.ins h2⟩
  · exact .inr h
theorem KK.ty {t : Value} (e : KK H H') (h : TyX K H v t) : TyX K H' v t := by
  have oth : ∀ {a : Addr} {o : HO}, H a = some o → (∀ xs, o ≠ .lst xs) → (∀ k, o ≠ .dK k) → H' a = some o := fun {a o} h h1 h2 => by
    rcases e a _ h with h | ⟨_, _, z, _⟩ | ⟨_, _, z, _⟩
    · exact h
    · exact absurd z (h1 _)
    · exact absurd z (h2 _)
  cases h with
  | base h =>
    refine .base ?_
    cases h with
    | non => exact .non
    | bl x => exact .bl x
    | int i => exact .int i
    | str x => exact .str x
    | flt x => exact .flt x
    | lst h =>
      rcases e _ _ h with h | ⟨_, _, z, h⟩ | ⟨_, _, z, _⟩
      · exact .lst h
      · exact .lst h
      · cases z
    | frz h => exact .frz (oth h (fun _ z => nomatch z) (fun _ z => nomatch z))
    | tup h => exact .tup (e.tup h)
    | dK h =>
      rcases e _ _ h with h | ⟨_, _, z, _⟩ | ⟨_, _, z, h⟩
      · exact .dK h
      · cases z
      · exact .dK h
    | dT h => exact .dT (oth h (fun _ z => nomatch z) (fun _ z => nomatch z))
    | ins h cl ha hn htk hm => exact .ins (e.ins h) cl ha hn htk hm
  | byt b => exact .byt b
  | set h => exact .set (oth h (fun _ z => nomatch z) (fun _ z => nomatch z))
  | kList h c => exact .kList h c
  | kTuple h c => exact .kTuple h c
  | kDict h c => exact .kDict h c
  | fTuple h => exact .fTuple (oth h (fun _ z => nomatch z) (fun _ z => nomatch z))
  | fDict h => exact .fDict (oth h (fun _ z => nomatch z) (fun _ z => nomatch z))
theorem KK.ab (e : KK H H') (h : AbB K C H v b) : AbB K C H' v b := by
  rcases h with ⟨q, h1, h2, h3⟩ | ⟨⟨t, ty, r⟩, h2⟩
  · exact .inl ⟨q, e.nb h1, h2, h3⟩
  · exact .inr ⟨⟨t, e.ty ty, r⟩, h2⟩
theorem KK.noti (e : KK H H') (h : NotI K H v) : NotI K H' v := by
  obtain ⟨t, ty, r⟩ := h
  exact ⟨t, e.ty ty, r⟩
theorem KK.af (e : KK H H') (h : AfB K C H v b) : AfB K C H' v b := by
  cases h with
  | str z => exact .str z
  | odd ty k1 k2 => exact .odd (e.ty ty) k1 k2
  | len h hl => exact .len (e.tup h) hl
  | first h ty k => exact .first (e.tup h) (e.ty ty) k
  | doubt h hw => exact .doubt (e.tup h) (e.ab hw)
  | look h => exact .look (e.tup h)
  | lookN h hw => exact .lookN (e.tup h) (e.noti hw)
theorem KK.st {x : Str} (e : KK H H') (h : StB K C H x v b) : StB K C H' x v b := by
  cases h with
  | triesN => exact .triesN
  | triesI i => exact .triesI i
  | triesX h hn => exact .triesX (e.noti h) hn
  | told h => exact .told (e.ab h)
  | factor h hz => exact .factor (e.nb h) hz
  | factorN h => obtain ⟨t, ty, r⟩ := h; exact .factorN ⟨t, e.ty ty, r⟩
  | after h => exact .after (e.af h)
  | flag hx c => exact .flag hx c
  | flagN hx ty k => exact .flagN hx (e.ty ty) k
end
theorem atI_mem {xs : List V} {r : Int} (r0 : 0 ≤ r) (r1 : r < xs.length) : ∃ x, atI xs r = some x ∧ x ∈ xs := by
  obtain ⟨n, rfl⟩ : ∃ n : Nat, r = n := ⟨r.toNat, by omega⟩
  have hn : n < xs.length := by omega
  refine ⟨xs[n], ?_, List.getElem_mem hn⟩
  unfold atI ixN
  rw [if_pos (by omega), if_pos (by omega)]
  simp [hn]
end Ps

/-! k77: the law. -/
namespace Ps
open PySem PySem.Spec PyProof.Rows PySem.W L2

abbrev CBkEq (Z : Cz) (C CB : Addr) : Prop := CalS Z CX0 9 CB "__eq__" ["self", "other"] (spBkEq Z.K C CB)
theorem BkAt.nf {Z : Cz} {C CB : Addr} (K : BkC Z CB) (J : BkI Z CB) {H : Hp} {v : V} {b : Bk} (h : BkAt C CB H v b) : Nf Z.K CB H v := by
  obtain ⟨a, dx, d, rfl, ha, _⟩ := h
  exact ⟨_, .base (.ins ha K.cl J.ha J.hn J.htk J.hm), nf_own⟩
theorem BkAt.ins {C CB : Addr} {H : Hp} {v : V} {b : Bk} (h : BkAt C CB H v b) : InsC CB H v := by
  obtain ⟨a, dx, d, rfl, ha, _⟩ := h
  exact ⟨a, dx, _, rfl, ha⟩
/-- all but lists stays -/
def Nl (H H' : Hp) : Prop := ∀ c o, H c = some o → (∀ xs, o ≠ .lst xs) → H' c = some o
theorem Nl.upd {H : Hp} {F : Addr} {xs : List V} {o : HO} (h : H F = some (.lst xs)) : Nl H (L2.upd H F o) := fun c u hc hn => by
  rw [upd_ne (fun z => by rw [z, h] at hc; exact hn _ (Option.some.inj hc).symm)]
  exact hc
theorem Nl.sh {C : Addr} {H H' : Hp} {v : V} {q : Int × Int} (e : Nl H H') (h : Sh C H v q) : Sh C H' v q := by
  obtain ⟨a, dx, h1, h2⟩ := h
  exact ⟨a, dx, h1, e _ _ h2 (fun _ z => nomatch z)⟩
theorem Nl.af {C : Addr} {H H' : Hp} {v : V} {a : Af} (e : Nl H H') (h : AfV C H v a) : AfV C H' v a := by
  cases a with
  | ever => exact h
  | doubt q => obtain ⟨a, w, g1, g2, g3⟩ := h; exact ⟨a, w, g1, e _ _ g2 (fun _ z => nomatch z), e.sh g3⟩
  | look i => obtain ⟨a, g1, g2⟩ := h; exact ⟨a, g1, e _ _ g2 (fun _ z => nomatch z)⟩
theorem Nl.md {C : Addr} {H H' : Hp} {v : V} {x : Str} {pl : Pl} (e : Nl H H') (h : MdAt C H v x pl) : MdAt C H' v x pl := by
  obtain ⟨t, w, h1, h2, ⟨i, h3, h4⟩, h5⟩ := h
  refine ⟨t, w, h1, e _ _ h2 (fun _ z => nomatch z), ⟨i, h3, ?_⟩, h5⟩
  rcases i with _ | _ | _ | _ | _ | _ | _ | i
  · exact h4
  · exact e.sh h4
  · exact e.sh h4
  · exact h4
  · exact h4
  · exact e.af h4
  · exact h4
  · exact h4
theorem Nl.mds {C : Addr} {H H' : Hp} (e : Nl H H') : ∀ {ms : List V} {cs : List (Str × Pl)}, Mds C H ms cs → Mds C H' ms cs
  | [], [], _ => trivial
  | _ :: _, _ :: _, h => ⟨e.md h.1, Nl.mds e h.2⟩
  | [], _ :: _, h => h.elim
  | _ :: _, [], h => h.elim
theorem cut_to (xs : List V) {i : Nat} (hi : i ≤ xs.length) : cutV xs none (some (i : Int)) = xs.take i := by
  unfold cutV
  have h0 : HT.sIx xs.length 0 none = 0 := rfl
  have h1 : HT.sIx xs.length xs.length (some (i : Int)) = i := by
    rw [HT.sIx_nat]
    omega
  rw [h0, h1]
  simp
theorem Mds.take {C : Addr} {H : Hp} : ∀ {ms : List V} {cs : List (Str × Pl)} (n : Nat), Mds C H ms cs → Mds C H (ms.take n) (cs.take n)
  | [], [], n, _ => by simp [Mds]
  | _ :: _, _ :: _, 0, _ => trivial
  | _ :: _, _ :: _, n + 1, h => ⟨h.1, Mds.take n h.2⟩
  | [], _ :: _, _, h => h.elim
  | _ :: _, [], _, h => h.elim
/-- the first name that comes again -/
theorem err_again {K : Frag} {C CB : Addr} {H : Hp} {v : V} {b : Bk} {l : Addr} {mm : List V} {cs : List (Str × Pl)} {a0 : Nat} {r : List Nat} (hb : BkAt C CB H v b) (hl : H l = some (.lst mm)) (hmd : Mds C H mm cs) (h5 : mm.length ≤ 5) (hag : ags (cs.map (·.1)) cs.length = a0 :: r) : ∃ t, mm[a0]? = some (.ref t) ∧ ErrC K C CB H v (.ref l) true (.ref t) := by
  obtain ⟨h1, h2, h3⟩ := ags_first hag
  have hc : cs[a0]? = some cs[a0] := List.getElem?_eq_getElem h1
  obtain ⟨m, hm, hd⟩ := hmd.get hc
  obtain ⟨t, w, rfl, ht, hmv, hok⟩ := hd
  have hnd : ((cs.take a0).map (·.1)).Nodup := by
    rw [List.map_take]
    exact nodup_take (by rw [List.length_map]; omega) h3
  obtain ⟨zs, _, G⟩ := Mds.good (K := K) (hmd.take a0) hnd (mm.drop a0)
  rw [List.take_append_drop, List.length_take, Nat.min_eq_left (by omega)] at G
  have hf : (cs.map (·.1))[a0]? = some cs[a0].1 := by rw [List.getElem?_map, hc]; rfl
  rw [rep_at hf] at h2
  refine ⟨t, hm, .bad hb hl h5 G hm (.inr ⟨t, _, w, rfl, ht, ?_, hmv.st hok⟩)⟩
  rw [List.map_take]
  exact of_decide_eq_true h2
theorem Nl.keep {H H' : Hp} {p : Addr} {xs : List V} (k : Keep p H H') (hp : H p = some (.lst xs)) : Nl H H' := fun c o hc hn => k c (fun z => by rw [z, hp] at hc; exact hn _ (Option.some.inj hc).symm) o hc
theorem Nl.bk {C CB : Addr} {H H' : Hp} {v : V} {b : Bk} (e : Nl H H') (h : BkAt C CB H v b) : BkAt C CB H' v b := by
  obtain ⟨a, dx, d, h1, h2, ⟨vo, vf, va, h3, h4, h5, h6⟩, h7⟩ := h
  exact ⟨a, dx, d, h1, e _ _ h2 (fun _ z => nomatch z), ⟨vo, vf, va, e _ _ h3 (fun _ z => nomatch z), e.sh h4, e.sh h5, e.af h6⟩, h7⟩
theorem cut_to' (xs : List V) (i : Nat) : cutV xs none (some (i : Int)) = xs.take i := by
  by_cases h : i ≤ xs.length
  · exact cut_to xs h
  · unfold cutV
    have h0 : HT.sIx xs.length 0 none = 0 := rfl
    rw [h0, HT.sIx_nat, Nat.min_eq_right (by omega), List.drop_zero, Nat.sub_zero, List.take_length]
    exact (List.take_of_length_le (show xs.length ≤ i by omega)).symm
theorem cut_from (xs : List V) (i : Nat) : cutV xs (some (i : Int)) none = xs.drop i := by
  unfold cutV
  have h0 : HT.sIx xs.length xs.length none = xs.length := rfl
  rw [h0, HT.sIx_nat]
  by_cases h : i ≤ xs.length
  · rw [Nat.min_eq_left h]
    exact List.take_of_length_le (by rw [List.length_drop]; exact Nat.le_refl _)
  · rw [Nat.min_eq_right (by omega), Nat.sub_self, List.take_zero]
    exact (List.drop_eq_nil_of_le (show xs.length ≤ i by omega)).symm
/-- a wrong change behind some that are right -/
theorem err_wrong {K : Frag} {C CB : Addr} {H : Hp} {v w : V} {b : Bk} {l : Addr} {fw rest : List V} {fc : List (Str × Pl)} {n : Nat} (hb : BkAt C CB H v b) (hl : H l = some (.lst (fw.take n ++ (w :: rest)))) (hmf : Mds C H fw fc) (hnd : (fc.map (·.1)).Nodup) (h5 : (fw.take n ++ (w :: rest)).length ≤ 5) (hw : ChB K C H w false) : ErrC K C CB H v (.ref l) true w := by
  have hnd' : ((fc.take n).map (·.1)).Nodup := by
    rw [List.map_take]
    exact List.Sublist.nodup (List.take_sublist _ _) hnd
  obtain ⟨zs, _, G⟩ := Mds.good (K := K) (hmf.take n) hnd' (w :: rest)
  have hlen := (hmf.take n).length
  refine .bad hb hl h5 G ?_ (.inl hw)
  rw [← hlen, List.getElem?_append_right (Nat.le_refl _), Nat.sub_self]
  rfl
theorem KK.chb {K : Frag} {C : Addr} {H H' : Hp} {v : V} {b : Bool} (e : KK H H') (h : ChB K C H v b) : ChB K C H' v b := by
  cases h with
  | odd ty k => exact .odd (e.ty ty) k
  | len h hl => exact .len (e.tup h) hl
  | first h ty k => exact .first (e.tup h) (e.ty ty) k
  | name h hz => exact .name (e.tup h) hz
  | set h hz hs => exact .set (e.tup h) hz (e.st hs)
def spBy0 (K : Frag) (C CB CA CC : Addr) : Sp := fun vs H Q _ => spChBy K C CB CA CC vs H Q E0
section
variable {Z : Cz} {f C CB CA CC P fX : Addr} {fd : FuncData}
theorem ok_law (F : Fun Z.K "law" "law" s_lw_law f fd) (T : DrT Z) (TS : ShT Z C) (K : BkC Z CB) (J : BkI Z CB) (ceq : CBkEq Z C CB) (N : NeT Z.K CB) (ml : Z.mg "list" = none) (mt : Z.mg "tuple" = none) (kDC : kitOne Z.K (.type "dict") (.ref CB) = some false)
    (c_lw_opened : Cal Z CX0 3 "_law_opened" ["_law_script", "_law_k", "_law_many"] [] (spOpened Z.K)) (c_lw_draw : CDraw Z) (c_lw_plan : Cal Z CX0 3 "_law_plan" ["_law_pool_here", "_law_most"] [] spLPlan) (c_lw_pool : Cal Z CX0 2 "_law_pool" ["_law_cell_here", "_law_salt", "_law_many"] [] spPool) (c_lw_cell : Cal Z CX0 1 "_law_cell" ["_law_script", "_law_k"] [] (spCell Z.K))
    (c_lw_made_book : CMBook Z C CB) (c_lw_change_of : Cal Z CX0 4 "_law_change_of" ["_law_pool_here"] [] spChgOf) (c_lw_made_change : Cal Z CX0 5 "_law_made_change" ["_law_change"] [] (spMChg C)) (c_lw_with : Cal Z CX0 1 "_law_with" ["_law_plan_here", "_law_changes"] [] spWith)
    (c_lw_error : Cal Z CX0 15 "_law_error" ["_law_book", "_law_changes"] [] (spErr Z.K C CB)) (c_changed_by : Cal Z CX0 14 "changed_by" ["book", "changes"] [] (spBy0 Z.K C CB CA CC)) :
    Z.ok CX0 16 f fd ["_law_script"] (spLaw Z.K) := by
  refine F.ok sc_lw_law (fun vs H Q E h => ?_) (fun cdv A outer s H vs Q E hr h => ?_)
  · obtain ⟨a, ns, rfl, _⟩ := h
    rfl
  · obtain ⟨a, ns, rfl, hS, hl, k⟩ := h
    refine ⟨_, (pss_cons (ps_asg (pe_tup (pa_cons (pe_cal c_lw_plan (hr.mono (by decide)) (by rfl) pass0 (pa_cons (pe_cal c_lw_opened (hr.mono (by decide)) (by rfl) pass0 (pa_cons (pv 0) (pa_cons pe_int (pa_cons pe_int pa_nil)))) (pa_cons pe_int pa_nil))) (pa_cons (pe_cal c_lw_pool (hr.mono (by decide)) (by rfl) pass0 (pa_cons (pe_cal c_lw_cell (hr.mono (by decide)) (by rfl) pass0 (pa_cons (pv 0) (pa_cons pe_int pa_nil))) (pa_cons pe_int (pa_cons pe_int pa_nil)))) pa_nil))) (pg_tup (by rfl) (pgs_cons (pg_name (i := 1) sc_lw_law.nd rfl (Or.inl rfl)) (pgs_cons (pg_name (i := 2) sc_lw_law.nd rfl (Or.inr rfl)) pgs_nil))))
      (pss_cons (ps_setLc (i := 3) (own := [("_law_k", 4)]) (g := gName 4) (tt := tYes) (by rfl) sc_lw_law.nd rfl rfl (sw_true rfl rfl rfl (by decide +kernel)) (pi_range1 (by rfl) T.range (pa_cons (pe_cal c_lw_draw (hr.mono (by decide)) (by rfl) pass0 (pa_cons (pv 2) (pa_cons pe_int pa_nil))) pa_nil)) (blkOk_by (own := [("_law_k", 4)]) (N := ["_law_script", "_law_plan_here", "_law_pool_here", "_law_changes", "_law_k", "_law_book", "_law_made", "_law_change", "_law_fields", "_law_again", "_law_wrong", "_law_at", "_law_few", "_law_odd"]) (sc := defScope s_lw_law) (by decide +kernel)) (fun _ _ _ _ _ => (pg_name (i := 4) sc_lw_law.nd rfl (Or.inl rfl))) (fun _ _ _ _ _ => pts_nil) (fun _ _ _ _ _ => (pe_cal c_lw_change_of (hr.mono (by decide)) (by rfl) pass0 (pa_cons (pv 2) pa_nil))))
      (pss_cons (ps_asg (pe_tup (pa_cons (pe_cal c_lw_made_book (hr.mono (by decide)) (by rfl) pass0 (pa_cons (pv 1) pa_nil)) (pa_cons (pe_lc (own := [("_law_change", 7)]) (g := gName 7) (tt := tYes) (by rfl) sc_lw_law.nd (pi_list (pv 3)) (blkOk_by (own := [("_law_change", 7)]) (N := ["_law_script", "_law_plan_here", "_law_pool_here", "_law_changes", "_law_k", "_law_book", "_law_made", "_law_change", "_law_fields", "_law_again", "_law_wrong", "_law_at", "_law_few", "_law_odd"]) (sc := defScope s_lw_law) (by decide +kernel)) (fun _ _ _ _ _ => (pg_name (i := 7) sc_lw_law.nd rfl (Or.inl rfl))) (fun _ _ _ _ _ => pts_nil) (fun _ _ _ _ _ => (pe_cal c_lw_made_change (hr.mono (by decide)) (by rfl) pass0 (pa_cons (pv 7) pa_nil)))) pa_nil))) (pg_tup (by rfl) (pgs_cons (pg_name (i := 5) sc_lw_law.nd rfl (Or.inl rfl)) (pgs_cons (pg_name (i := 6) sc_lw_law.nd rfl (Or.inr rfl)) pgs_nil))))
      (pss_cons (ps_set (i := 8) sc_lw_law.nd rfl (Or.inr rfl) (pe_lc (own := [("_law_change", 7)]) (g := gName 7) (tt := tYes) (by rfl) sc_lw_law.nd (pi_list (pv 3)) (blkOk_by (own := [("_law_change", 7)]) (N := ["_law_script", "_law_plan_here", "_law_pool_here", "_law_changes", "_law_k", "_law_book", "_law_made", "_law_change", "_law_fields", "_law_again", "_law_wrong", "_law_at", "_law_few", "_law_odd"]) (sc := defScope s_lw_law) (by decide +kernel)) (fun _ _ _ _ _ => (pg_name (i := 7) sc_lw_law.nd rfl (Or.inl rfl))) (fun _ _ _ _ _ => pts_nil) (fun _ _ _ _ _ => (pe_ix (show IxR _ (rIxT Z.K) from ix_tup) (pv 7) pe_int (fun _ _ => rfl)))))
      (pss_cons (ps_set (i := 9) sc_lw_law.nd rfl (Or.inr rfl) (pe_lc (own := [("_law_k", 4)]) (g := gName 4) (by rfl) sc_lw_law.nd (pi_range1 (by rfl) T.range (pa_cons (pe_callB call_len_seq (by rfl) T.len PySem.boot_len (pa_cons (pv 8) pa_nil)) pa_nil)) (blkOk_by (own := [("_law_k", 4)]) (N := ["_law_script", "_law_plan_here", "_law_pool_here", "_law_changes", "_law_k", "_law_book", "_law_made", "_law_change", "_law_fields", "_law_again", "_law_wrong", "_law_at", "_law_few", "_law_odd"]) (sc := defScope s_lw_law) (by decide +kernel)) (fun _ _ _ _ _ => (pg_name (i := 4) sc_lw_law.nd rfl (Or.inl rfl))) (fun _ _ _ _ _ => (pts_one (pt_cmpR (show OpR _ _ (rIn Z.K false) from op_in_seq) (pe_ix (show IxR _ (rIxL Z.K) from ix_list) (pv 8) (pv 4) (fun _ _ => rfl)) (pe_slice (show SlR _ (rSlL Z.K) from sl_list) (pv 8) po_none (po_some (pv 4))) (by rfl)))) (fun _ _ _ _ _ => (pv 4))))
      (C8.pss_cut (ps_if (PW.pt (pw_and (pt_cmpR (op_neD hr.units) (pv 9) (pe_lst pa_nil) (nomark _)) (pw_and1 (pt_cmpR (op_neTup mon_sf eqB_sf (hr.mono (by decide))) (pe_cal c_lw_error (hr.mono (by decide)) (by rfl) pass0 (pa_cons (pv 5) (pa_cons (pe_callTy call_list_of (by rfl) ml (by decide +kernel) (pa_cons (pv 6) pa_nil)) pa_nil))) (pe_tup (pa_cons pe_str (pa_cons (pe_ix ix_list (pv 6) (pe_ix ix_list (pv 9) pe_int (fun _ _ => rfl)) (fun _ _ => rfl)) pa_nil))) (nomark _)))))
      (pss_one (ps_ret pe_bl))
      pss_nil)
      (C8.pss_cut (ps_if (PW.pt (pw_and (pt_cmpR (op_eqD hr.units) (pv 9) (pe_lst pa_nil) (nomark _)) (pw_and1 (pt_cmpR (op_ne_ ceq N (hr.mono (by decide)) pass0) (pe_cal c_changed_by (hr.mono (by decide)) (by rfl) pass0 (pa_cons (pv 5) (pa_cons (pe_callTy call_list_of (by rfl) ml (by decide +kernel) (pa_cons (pv 6) pa_nil)) pa_nil))) (pe_cal c_lw_made_book (hr.mono (by decide)) (by rfl) pass0 (pa_cons (pe_cal c_lw_with (hr.mono (by decide)) (by rfl) pass0 (pa_cons (pv 1) (pa_cons (pv 3) pa_nil))) pa_nil)) (nomark _)))))
      (pss_one (ps_ret pe_bl))
      pss_nil)
      (pss_cons (ps_set (i := 10) sc_lw_law.nd rfl (Or.inl rfl) (pe_ix ix_list (pe_lst (pa_cons pe_non (pa_cons (pe_tup (pa_cons pe_str (pa_cons pe_int pa_nil))) (pa_cons (pe_tup (pa_cons pe_str (pa_cons pe_int pa_nil))) (pa_cons (pe_lst (pa_cons pe_str (pa_cons pe_bl pa_nil))) (pa_cons (pe_tup (pa_cons pe_str (pa_cons pe_int pa_nil))) (pa_cons (pe_tup (pa_cons pe_str (pa_cons pe_int pa_nil))) (pa_cons (pe_tup (pa_cons pe_str pa_nil)) pa_nil)))))))) (pe_cal c_lw_draw (hr.mono (by decide)) (by rfl) pass0 (pa_cons (pv 2) (pa_cons pe_int pa_nil))) (fun _ _ => rfl)))
      (pss_cons (ps_set (i := 11) sc_lw_law.nd rfl (Or.inl rfl) (pe_cal c_lw_draw (hr.mono (by decide)) (by rfl) pass0 (pa_cons (pv 2) (pa_cons pe_int pa_nil))))
      (pss_cons (ps_setLc (i := 12) (own := [("_law_k", 4)]) (g := gName 4) (by rfl) sc_lw_law.nd rfl rfl (sw_true rfl rfl rfl (by decide +kernel)) (pi_range1 (by rfl) T.range (pa_cons (pe_callB (call_min2 rfl) (by rfl) T.min (by decide +kernel) (pa_cons pe_int (pa_cons (pe_callB call_len_seq (by rfl) T.len PySem.boot_len (pa_cons (pv 6) pa_nil)) pa_nil))) pa_nil)) (blkOk_by (own := [("_law_k", 4)]) (N := ["_law_script", "_law_plan_here", "_law_pool_here", "_law_changes", "_law_k", "_law_book", "_law_made", "_law_change", "_law_fields", "_law_again", "_law_wrong", "_law_at", "_law_few", "_law_odd"]) (sc := defScope s_lw_law) (by decide +kernel)) (fun _ _ _ _ _ => (pg_name (i := 4) sc_lw_law.nd rfl (Or.inl rfl))) (fun _ _ _ _ _ => (pts_one (pt_cmpR (show OpR _ _ (rIn Z.K true) from op_notIn_seq) (pv 4) (pv 9) (by rfl)))) (fun _ _ _ _ _ => (pe_ix (show IxR _ (rIxL Z.K) from ix_list) (pv 6) (pv 4) (fun _ _ => rfl))))
      (pss_cons (ps_if (pt_cmpR (op_neTup mon_sf eqB_sf (hr.mono (by decide))) (pe_cal c_lw_error (hr.mono (by decide)) (by rfl) pass0 (pa_cons (pv 5) (pa_cons (pe_op op_cat (pe_op op_cat (pe_op op_cat (pe_slice sl_list (pv 12) po_none (po_some (pv 11))) (pe_lst (pa_cons (pv 10) pa_nil))) (pe_slice sl_list (pv 12) (po_some (pv 11)) po_none)) (pe_op op_rep (pe_lst (pa_cons pe_non pa_nil)) (pe_op op_sub pe_int (pe_callB call_len_seq (by rfl) T.len PySem.boot_len (pa_cons (pv 12) pa_nil))))) pa_nil))) (pe_tup (pa_cons pe_str (pa_cons (pv 10) pa_nil))) (nomark _))
      (pss_one (ps_ret pe_bl))
      pss_nil)
      (pss_cons (ps_for PassesOwn.never rfl (pi_list (pe_lst (pa_cons pe_non (pa_cons (pe_callTy call_tuple_of (by rfl) mt (by decide +kernel) (pa_cons (pv 12) pa_nil)) (pa_cons (pe_op op_rep (pe_slice sl_list (pv 6) po_none (po_some pe_int)) pe_int) (pa_cons pe_str pa_nil)))))) (pg_name (i := 13) sc_lw_law.nd rfl (Or.inl rfl))
      (pss_one (ps_if (PW.pt (pw_and (pt_cmpR (op_both (op_neNil (Nat.lt_of_le_of_lt (Nat.le_add_right _ 64) hr.units)) (op_neD hr.units)) (pv 13) (pe_lst pa_nil) (nomark _)) (pw_and1 (pt_cmpR (op_neTup mon_sf eqB_sf (hr.mono (by decide))) (pe_cal c_lw_error (hr.mono (by decide)) (by rfl) pass0 (pa_cons (pv 5) (pa_cons (pv 13) pa_nil))) (pe_tup (pa_cons pe_str (pa_cons (pv 13) pa_nil))) (nomark _)))))
        (pss_one (ps_ret pe_bl))
        pss_nil)))
      (pss_cons (ps_if (PW.pt (pw_or (pt_cmpR (op_neTup mon_sf eqB_sf (hr.mono (by decide))) (pe_cal c_lw_error (hr.mono (by decide)) (by rfl) pass0 (pa_cons (pv 1) (pa_cons pe_non pa_nil))) (pe_tup (pa_cons pe_str (pa_cons (pv 1) pa_nil))) (nomark _)) (pw_or1 (pt_cmpR (op_ne_ ceq N (hr.mono (by decide)) pass0) (pe_cal c_changed_by (hr.mono (by decide)) (by rfl) pass0 (pa_cons (pv 5) (pa_cons (pe_lst pa_nil) pa_nil))) (pv 5) (nomark _)))))
      (pss_one (ps_ret pe_bl))
      pss_nil)
      (pss_one (ps_ret (pe_cmpR (op_cmp (op := .Eq) ceq (hr.mono (by decide)) pass0) (pv 5) (pe_cal c_lw_made_book (hr.mono (by decide)) (by rfl) pass0 (pa_cons (pv 1) pa_nil)) (nomark _))))))))))))))))), ?_⟩
    have hi0 : 0 < ns.length ∨ (ns = [] ∧ 0 = 0) := by
      cases ns with
      | nil => exact .inr ⟨rfl, rfl⟩
      | cons n r => exact .inl (by simp)
    -- the plan, the pool
    refine ⟨_, rfl, a, ns, 0, 20, rfl, hS, hi0, by decide, by decide, by decide, fun p0 q0 H1 ms0 e1 hp0 hq0 P0 => ?_⟩
    refine ⟨p0, q0, ms0, 0, 2, rfl, P0, by decide, by decide, by decide, fun ap H2 pl vf va j2 k2 ha2 P2 hj2 hpl2 hok => ?_⟩
    have e02 : Same H H2 := Keep.same e1 hp0 k2
    refine ⟨_, rfl, a, ns, 1, rfl, e02.seq hS, by decide, fun n => ?_⟩
    refine ⟨n, 8, 80, rfl, by decide, by decide, by decide, by decide, fun p q H3 ms e3 hp hq P3 => ?_⟩
    have hpl3 := hpl2.mono e3
    refine ⟨(by show 2 ≤ sizeLine; decide), fun t1 ht1 => ?_⟩
    have u1 := Same.upd (o := .tup [.ref ap, .ref p]) ht1
    have hu1 : (upd H3 t1 (.tup [.ref ap, .ref p])) t1 = some (.tup [.ref ap, .ref p]) := upd_same
    have P4 := P3.mono u1
    have hpl4 := hpl3.mono u1
    generalize (upd H3 t1 (.tup [.ref ap, .ref p])) = H4 at u1 hu1 P4 hpl4
    refine ⟨t1, _, rfl, SqT.of hu1, rfl, _, _, rfl, _, _, rfl, rfl, ?_⟩
    -- the changes
    refine ⟨_, rfl, p, q, ms, 0, 6, rfl, P4, by decide, by decide, fun r H5 r0 r1 e5 P5 => ?_⟩
    obtain ⟨rn, rfl⟩ : ∃ m : Nat, r = m := ⟨r.toNat, by omega⟩
    have hpl5 := hpl4.keep (Keep.of_eq e5) P4.at_
    have kp5 : Keep p H4 H5 := Keep.of_eq e5
    have hpH : H p = none := e02.free hp
    have e05 : Same H H5 := Keep.same ((e02.trans e3).trans u1) hpH kp5
    refine ⟨rn, rfl, (by have : (rn : Int) < 6 := r1; omega), (by have : (rn : Int) < 6 := r1; omega), fun D hD => ?_⟩
    have hDp : D ≠ p := fun z => by rw [z, P5.at_] at hD; cases hD
    have hDq : D ≠ q := fun z => by rw [z, P5.nums] at hD; cases hD
    refine lc_range (lo := 0) (n := rn) (fun i H' => ∃ (xs : List V) (cs : List (Str × Pl)) (j : Nat), xs.length = i ∧ cs.length = i ∧ H' D = some (.lst xs) ∧ (∀ (n : Nat) (v : V) (c : Str × Pl), xs[n]? = some v → cs[n]? = some c → ChAt H' v c.1 c.2) ∧ Keep p H5 H' ∧ Pool H' p q ms j ∧ j ≤ 1 + 11 * i)
      ⟨[], [], 1, rfl, rfl, upd_same, (fun n v c h => by simp at h), Keep.of_same (Same.upd hD), P5.put hDp hDq, by omega⟩ ?_ ?_
    · rintro i H6 hi ⟨xs, cs, j, hx, hc, hD6, hch, k6, P6, hj⟩
      have hi5 : i < 6 := by omega
      refine ⟨rfl, ?_⟩
      refine ⟨_, rfl, p, q, ms, j, rfl, P6, by omega, fun v x pl' H7 j7 k7 P7 hj7 hch7 => ?_⟩
      have hD7 := k7 D hDp _ hD6
      have tp7 : Tp H6 H7 := Tp.keep k7 P6.at_ (fun _ z => nomatch z)
      have tp8 : Tp H7 (upd H7 D (.lst (xs ++ [v]))) := Tp.upd hD7 (fun _ z => nomatch z)
      refine ⟨xs, hD7, small1000' (by omega), xs ++ [v], cs ++ [(x, pl')], j7, by simp [hx], by simp [hc], upd_same, fun n v' c' h1 h2 => ?_, (k6.trans k7).put hD, P7.put hDp hDq, by omega⟩
      by_cases hn : n < xs.length
      · rw [List.getElem?_append_left hn] at h1
        rw [List.getElem?_append_left (by omega)] at h2
        exact (hch n v' c' h1 h2).tp (tp7.trans tp8)
      · rw [List.getElem?_append_right (by omega)] at h1
        have hn0 : n = xs.length := by
          have := (List.getElem?_eq_some_iff.mp h1).1
          simp at this
          omega
        subst hn0
        rw [List.getElem?_append_right (by omega)] at h2
        simp at h1
        have h2' : c' = (x, pl') := by
          have : xs.length - cs.length = 0 := by omega
          rw [this] at h2
          exact (Option.some.inj h2).symm
        subst h1 h2'
        exact hch7.tp tp8
    rintro H6 ⟨xs, cs, j6, hxl, hcl, hD6, hch6, k6, P6, hj6⟩
    have hn5 : rn ≤ 5 := by have : (rn : Int) < 6 := r1; omega
    have hpl6 := hpl5.keep k6 P5.at_
    have e06 : Same H H6 := Keep.same e05 hpH k6
    -- the book, the made changes
    refine ⟨_, rfl, ap, pl, vf, va, rfl, hpl6, hok, fun vb H7 e7 hb7 => ?_⟩
    have hD7 := e7 _ _ hD6
    have hch7 : ∀ (n : Nat) (v : V) (c : Str × Pl), xs[n]? = some v → cs[n]? = some c → ChAt H7 v c.1 c.2 := fun n v c h1 h2 => (hch6 n v c h1 h2).tp (Tp.of e7)
    refine ⟨_, rfl, D, rfl, ⟨_, SqL.of hD7⟩, fun M hM => ?_⟩
    refine lc_list (K := Z.K) (a := D) (xs := xs) (fun i H' => ∃ mm, H' M = some (.lst mm) ∧ mm.length = i ∧ Mds C H' mm (cs.take i) ∧ Same H7 H') ⟨[], upd_same, rfl, trivial, Same.upd hM⟩ (fun i H' _ ⟨_, _, _, _, e⟩ => SqL.of (e _ _ hD7)) ?_ ?_
    · rintro i y H8 hy ⟨mm, hM8, hml, hmd, e8⟩
      have hi := (List.getElem?_eq_some_iff.mp hy).1
      obtain ⟨c, hci⟩ : ∃ c, cs[i]? = some c := ⟨cs[i]'(by omega), List.getElem?_eq_getElem _⟩
      refine ⟨rfl, ?_⟩
      refine ⟨_, rfl, y, c.1, c.2, rfl, (hch7 i y c hy hci).tp (Tp.of e8), fun u H9 e9 hu => ?_⟩
      have hM9 := e9 _ _ hM8
      have e1 : cs.take (i + 1) = cs.take i ++ [c] := by rw [List.take_succ, hci]; rfl
      refine ⟨mm, hM9, small1000' (by omega), mm ++ [u], upd_same, by simp [hml], ?_, fun c' o hc' => ?_⟩
      · rw [e1]
        exact (Nl.upd hM9).mds ((hmd.mono e9).snoc hu)
      · rw [upd_ne (ne_of_none hc' hM)]
        exact e9 _ _ (e8 _ _ hc')
    rintro H8 ⟨mm, hM8, hml, hmd8, e8⟩
    have hmd8 : Mds C H8 mm cs := by
      have : cs.take xs.length = cs := List.take_of_length_le (by omega)
      rw [this] at hmd8
      exact hmd8
    have hb8 := hb7.mono e8
    refine ⟨(by show 2 ≤ sizeLine; decide), fun t2 ht2 => ?_⟩
    have u2 := Same.upd (o := .tup [vb, .ref M]) ht2
    have hu2 : (upd H8 t2 (.tup [vb, .ref M])) t2 = some (.tup [vb, .ref M]) := upd_same
    have hM9 := u2 _ _ hM8
    have hmd9 := hmd8.mono u2
    have hb9 := hb8.mono u2
    have e79 := e8.trans u2
    generalize (upd H8 t2 (.tup [vb, .ref M])) = H9 at u2 hu2 hM9 hmd9 hb9 e79
    refine ⟨t2, _, rfl, SqT.of hu2, rfl, _, _, rfl, _, _, rfl, rfl, ?_⟩
    -- the fields
    have hD9 := e79 _ _ hD7
    refine ⟨_, rfl, D, rfl, ⟨_, SqL.of hD9⟩, fun G hG => ?_⟩
    refine lc_list (K := Z.K) (a := D) (xs := xs) (fun i H' => H' G = some (.lst (((cs.take i).map (·.1)).map V.str)) ∧ Same H9 H') ⟨upd_same, Same.upd hG⟩ (fun i H' _ ⟨_, e⟩ => SqL.of (e _ _ hD9)) ?_ ?_
    · rintro i y H10 hy ⟨hG10, e10⟩
      have hi := (List.getElem?_eq_some_iff.mp hy).1
      obtain ⟨c, hci⟩ : ∃ c, cs[i]? = some c := ⟨cs[i]'(by omega), List.getElem?_eq_getElem _⟩
      obtain ⟨t, w, vf', va', rfl, ht, _⟩ := (hch7 i y c hy hci).tp (Tp.of (e79.trans e10))
      have e1 : cs.take (i + 1) = cs.take i ++ [c] := by rw [List.take_succ, hci]; rfl
      refine ⟨rfl, ?_⟩
      refine ⟨_, rfl, t, _, _, _, rfl, rfl, SqT.of ht, rfl, _, hG10, ?_, ?_, fun c' o hc' => ?_⟩
      · rw [List.length_map, List.length_map, List.length_take]
        exact small1000' (by omega)
      · rw [upd_same, e1, List.map_append, List.map_append]
        rfl
      · rw [upd_ne (ne_of_none hc' hG)]
        exact e10 _ _ hc'
    rintro H10 ⟨hG10, e10⟩
    have hG10 : H10 G = some (.lst ((cs.map (·.1)).map V.str)) := by
      have : cs.take xs.length = cs := List.take_of_length_le (by omega)
      rw [this] at hG10
      exact hG10
    generalize hfs : cs.map (·.1) = fs at hG10
    have hfl : fs.length = rn := by rw [← hfs, List.length_map]; exact hcl
    -- names that come again
    refine ⟨_, rfl, G, _, rfl, .inl (SqL.of hG10), (fs.map V.str).length, rfl, (by rw [List.length_map]; omega), (by rw [List.length_map]; omega), fun B hB => ?_⟩
    refine lc_range (lo := 0) (n := (fs.map V.str).length) (fun i H' => H' B = some (.lst ((ags fs i).map fun j => V.int (j : Nat))) ∧ Same H10 H') ⟨upd_same, Same.upd hB⟩ ?_ ?_
    · rintro i H11 hi ⟨hB11, e11⟩
      rw [List.length_map] at hi
      have hG11 := e11 _ _ hG10
      obtain ⟨x, hx⟩ : ∃ x, fs[i]? = some x := ⟨fs[i], List.getElem?_eq_getElem hi⟩
      have hat : atI (fs.map V.str) ((0 : Int) + (i : Int)) = some (.str x) := by
        rw [Int.zero_add]
        have hl' : i < (fs.map V.str).length := by rw [List.length_map]; exact hi
        unfold atI ixN
        rw [if_pos (by omega), if_pos (by omega)]
        simp [List.getElem?_map, hx]
      refine ⟨rfl, ?_⟩
      refine ⟨_, rfl, _, rfl, G, _, _, _, rfl, rfl, SqL.of hG11, hat, ?_⟩
      refine ⟨_, rfl, _, rfl, _, rfl, G, _, rfl, SqL.of hG11, fun l hl' => ?_⟩
      have el := Same.upd (o := .lst (cutV (fs.map V.str) none (some ((0 : Int) + (i : Int))))) hl'
      have hcut : cutV (fs.map V.str) none (some ((0 : Int) + (i : Int))) = (fs.take i).map V.str := by
        rw [Int.zero_add, cut_to _ (by rw [List.length_map]; omega), List.map_take]
      refine ⟨l, (fs.take i).map V.str, rfl, .inl (SqL.of (by rw [upd_same, hcut])), rfl, ?_, ?_⟩
      · rw [List.all_map]
        exact List.all_eq_true.mpr fun _ _ => rfl
      show ∃ kk, V.bl (inV (.str x) ((fs.take i).map V.str)) = V.bl kk ∧ _
      rw [inV_str, ← rep_at hx]
      refine ⟨_, rfl, ?_⟩
      have hB12 := el _ _ hB11
      have e12 := e11.trans el
      cases hr' : rep fs i with
      | false =>
        refine iteF ⟨?_, e12⟩
        rw [ags_succ, hr', if_neg (by simp), List.append_nil]
        exact hB12
      | true =>
        refine iteT ⟨_, rfl, _, hB12, ?_, ?_, fun c' o hc' => ?_⟩
        · rw [List.length_map]
          have := (show (ags fs i).length ≤ (List.range i).length from List.length_filter_le ..)
          rw [List.length_range] at this
          exact small1000' (by omega)
        · rw [upd_same, ags_succ, hr', if_pos rfl, List.map_append, Int.zero_add]
          rfl
        · rw [upd_ne (ne_of_none hc' hB)]
          exact e12 _ _ hc'
    rintro H11 ⟨hB11, e11⟩
    rw [List.length_map] at hB11
    have e6 : Same H6 H11 := e7.trans (e79.trans (e10.trans e11))
    have hM11 := (e10.trans e11) _ _ hM9
    have hmd11 := hmd9.mono (e10.trans e11)
    have hb11 := hb9.mono (e10.trans e11)
    have hpl11 := hpl6.mono e6
    have P11 := P6.mono e6
    have hD11 := e6 _ _ hD6
    have hml5 : mm.length ≤ 5 := by omega
    refine ⟨fun σ H' => σ = [some (.ref a), some (.ref ap), some (.ref p), some (.ref D), none, some vb, some (.ref M), none, some (.ref G), some (.ref B), none, none, none, none] ∧ Same H11 H', ?_, ?_⟩
    · refine ⟨_, rfl, (by show 0 ≤ sizeLine; decide), fun l hl' => ?_⟩
      have el := Same.upd (o := .lst []) hl'
      have hBi : (upd H11 l (.lst [])) B = some (.lst (((ags fs fs.length).map fun j : Nat => (j : Int)).map V.int)) := by
        rw [el _ _ hB11, List.map_map]
        rfl
      refine ⟨.list (((ags fs fs.length).map fun j : Nat => (j : Int)).map PyData.int), .list [], .lst (SqL.of hBi) (DpAll.ints _), .lst (SqL.of upd_same) .nil, shaped_ints _, rfl, _, rfl, ?_⟩
      cases hag : ags fs fs.length with
      | nil => exact iteF ⟨rfl, el⟩
      | cons a0 r =>
        refine iteT ?_
        have hMl := el _ _ hM11
        refine ⟨_, rfl, _, rfl, M, mm, rfl, .inl (SqL.of hMl), fun l2 hl2 => ?_⟩
        have el2 := Same.upd (o := .lst mm) hl2
        have elt := el.trans el2
        have hag' : ags (cs.map (·.1)) cs.length = a0 :: r := by
          rw [hfs, ← hag]
          congr 1
          omega
        obtain ⟨tm, htm, herr⟩ := err_again (K := Z.K) (l := l2) (hb11.mono elt) (show (upd (upd H11 l (.lst [])) l2 (.lst mm)) l2 = _ from upd_same) (hmd11.mono elt) hml5 hag'
        refine ⟨vb, .ref l2, true, .ref tm, rfl, herr, fun t H13 e13 ht13 => ?_⟩
        have hB13 : H13 B = some (.lst ((a0 :: r).map fun j : Nat => V.int (j : Nat))) := by rw [← hag]; exact (elt.trans e13) _ _ hB11
        have hM13 := (elt.trans e13) _ _ hM11
        have ha0 : a0 < mm.length := (List.getElem?_eq_some_iff.mp htm).1
        have hat : atI mm (a0 : Int) = some (.ref tm) := by
          unfold atI ixN
          rw [if_pos (by omega), if_pos (by omega)]
          simpa using htm
        have hat0 : atI ((a0 :: r).map fun j : Nat => V.int (j : Nat)) 0 = some (.int a0) := by
          unfold atI ixN
          rw [if_pos (by decide), if_pos (by simp)]
          rfl
        refine ⟨_, rfl, _, rfl, B, _, _, _, rfl, rfl, SqL.of hB13, hat0, M, _, _, _, rfl, rfl, SqL.of hM13, hat, (by show 2 ≤ sizeLine; decide), fun t2 ht2 => ?_⟩
        have et2 := Same.upd (o := .tup [.str "change", .ref tm]) ht2
        refine ⟨true, ⟨t, t2, _, _, rfl, rfl, SqT.of (et2 _ _ ht13), SqT.of upd_same, .yes (.inl ⟨rfl, rfl, rfl⟩) (.yes (.inr ⟨tm, rfl, rfl, rfl⟩) .nil), fun _ => rfl⟩, fun H14 e14 => ⟨_, rfl, iteF ⟨rfl, ((elt.trans e13).trans et2).trans e14⟩⟩⟩
    rintro σ H12 ⟨rfl, e12⟩
    have hcok : ∀ c ∈ cs, PlOk c.2 ∧ c.1 ∈ stF := fun c hc => by
      obtain ⟨n, hn⟩ := List.getElem?_of_mem hc
      have hn' := (List.getElem?_eq_some_iff.mp hn).1
      obtain ⟨v, hv⟩ : ∃ v, xs[n]? = some v := ⟨xs[n]'(by omega), List.getElem?_eq_getElem _⟩
      obtain ⟨_, _, _, _, _, _, h3, _, _, _, h7⟩ := hch7 n v c hv hn
      exact ⟨h7, h3⟩
    refine ⟨fun σ H' => σ = [some (.ref a), some (.ref ap), some (.ref p), some (.ref D), none, some vb, some (.ref M), none, some (.ref G), some (.ref B), none, none, none, none] ∧ Same H11 H', ?_, ?_⟩
    · refine ⟨_, rfl, (by show 0 ≤ sizeLine; decide), fun l hl' => ?_⟩
      have el := e12.trans (Same.upd (o := .lst []) hl')
      have hBi : (upd H12 l (.lst [])) B = some (.lst (((ags fs fs.length).map fun j : Nat => (j : Int)).map V.int)) := by
        rw [el _ _ hB11, List.map_map]
        rfl
      refine ⟨.list (((ags fs fs.length).map fun j : Nat => (j : Int)).map PyData.int), .list [], .lst (SqL.of hBi) (DpAll.ints _), .lst (SqL.of upd_same) .nil, shaped_ints _, rfl, _, rfl, ?_⟩
      cases hag : ags fs fs.length with
      | cons a0 r => exact iteF ⟨rfl, el⟩
      | nil =>
        refine iteT ?_
        have hMl := el _ _ hM11
        refine ⟨_, rfl, _, rfl, M, mm, rfl, .inl (SqL.of hMl), fun l2 hl2 => ?_⟩
        have elt := el.trans (Same.upd (o := .lst mm) hl2)
        have hnd : (cs.map (·.1)).Nodup := by rw [hfs]; exact ags_nil hag
        obtain ⟨zs, hmv, G⟩ := Mds.good (K := Z.K) (hmd11.mono elt) hnd []
        rw [List.append_nil] at G
        have hmc := hmd11.length
        refine ⟨vb, .ref l2, rfl, .inr ⟨_, hb11.mono elt, .inr ⟨l2, mm, rfl, upd_same, .inr ⟨hml5, cs.length, _, zs, G, .inr ⟨hmc.symm, fun H13 e13 => ?_⟩⟩⟩⟩⟩
        refine kg_all ((hb11.mono elt).mono e13) hok hcok (hmv.mono e13) (by omega) fun u H14 e14 hu => ?_
        have e1114 := (elt.trans e13).trans e14
        refine ⟨_, rfl, _, rfl, ap, D, pl, vf, va, xs, cs, rfl, hpl11.mono e1114, hok, e1114 _ _ hD11, by omega, by omega, fun n v c h1 h2 => (hch6 n v c h1 h2).tp (Tp.of (e6.trans e1114)), fun fw vfw vaw H15 e15 hplw => ?_⟩
        refine ⟨fw, _, vfw, vaw, rfl, hplw, withs_ok hok fun c hc => (hcok c hc).1, fun v2 H16 e16 hb16 => ?_⟩
        have hu16 := (hu.mono e15).mono e16
        refine ⟨hu16.ins, hb16.nf K J, u, v2, _, rfl, hu16, .inl ⟨_, hb16, fun H17 e17 => ⟨_, rfl, _, rfl, ?_⟩⟩⟩
        rw [decide_eq_true rfl]
        exact iteF ⟨rfl, ((e1114.trans e15).trans e16).trans e17⟩
    rintro σ H13 ⟨rfl, e13⟩
    have P13 := P11.mono e13
    -- a wrong change
    refine ⟨(by show 2 ≤ sizeLine; decide), fun w1 hw1 => ?_⟩
    refine ⟨(by show 2 ≤ sizeLine; decide), fun w2 hw2 => ?_⟩
    refine ⟨(by show 2 ≤ sizeLine; decide), fun w3 hw3 => ?_⟩
    refine ⟨(by show 2 ≤ sizeLine; decide), fun w4 hw4 => ?_⟩
    refine ⟨(by show 2 ≤ sizeLine; decide), fun w5 hw5 => ?_⟩
    refine ⟨(by show 1 ≤ sizeLine; decide), fun w6 hw6 => ?_⟩
    refine ⟨(by show 7 ≤ sizeLine; decide), fun LW hLW => ?_⟩
    have vLW := Same.upd (o := .lst [.non, .ref w1, .ref w2, .ref w3, .ref w4, .ref w5, .ref w6]) hLW
    have vw6 := (Same.upd (o := .tup [.str "keep"]) hw6).trans vLW
    have vw5 := (Same.upd (o := .tup [.str "equal", .int 1]) hw5).trans vw6
    have vw4 := (Same.upd (o := .tup [.str "name", .int 1]) hw4).trans vw5
    have vw3 := (Same.upd (o := .lst [.str "keep", .bl true]) hw3).trans vw4
    have vw2 := (Same.upd (o := .tup [.str "tries", .int 7]) hw2).trans vw3
    have vw1 := (Same.upd (o := .tup [.str "told", .int 0]) hw1).trans vw2
    have gw1 := vw2 w1 _ upd_same
    have gw2 := vw3 w2 _ upd_same
    have gw3 := vw4 w3 _ upd_same
    have gw4 := vw5 w4 _ upd_same
    have gw5 := vw6 w5 _ upd_same
    have gw6 := vLW w6 _ upd_same
    have gLW : (upd (upd (upd (upd (upd (upd (upd H13 w1 (.tup [.str "told", .int 0])) w2 (.tup [.str "tries", .int 7])) w3 (.lst [.str "keep", .bl true])) w4 (.tup [.str "name", .int 1])) w5 (.tup [.str "equal", .int 1])) w6 (.tup [.str "keep"])) LW (.lst [.non, .ref w1, .ref w2, .ref w3, .ref w4, .ref w5, .ref w6])) LW = some (.lst [.non, .ref w1, .ref w2, .ref w3, .ref w4, .ref w5, .ref w6]) := upd_same
    have P14 := P13.mono vw1
    have nLp : LW ≠ p := fun z => by rw [z] at hLW; have := (P13.mono ((Same.upd (o := .tup [.str "told", .int 0]) hw1).trans ((Same.upd (o := .tup [.str "tries", .int 7]) hw2).trans ((Same.upd (o := .lst [.str "keep", .bl true]) hw3).trans ((Same.upd (o := .tup [.str "name", .int 1]) hw4).trans ((Same.upd (o := .tup [.str "equal", .int 1]) hw5).trans (Same.upd (o := .tup [.str "keep"]) hw6)))))) |>.at_); rw [this] at hLW; cases hLW
    clear vw2 vw3 vw4 vw5 vw6 vLW
    generalize (upd (upd (upd (upd (upd (upd (upd H13 w1 (.tup [.str "told", .int 0])) w2 (.tup [.str "tries", .int 7])) w3 (.lst [.str "keep", .bl true])) w4 (.tup [.str "name", .int 1])) w5 (.tup [.str "equal", .int 1])) w6 (.tup [.str "keep"])) LW (.lst [.non, .ref w1, .ref w2, .ref w3, .ref w4, .ref w5, .ref w6])) = H14 at vw1 gw1 gw2 gw3 gw4 gw5 gw6 gLW P14
    have wAll : ∀ y ∈ [V.non, .ref w1, .ref w2, .ref w3, .ref w4, .ref w5, .ref w6], ChB Z.K C H14 y false := by
      intro y hy
      simp only [List.mem_cons, List.not_mem_nil, or_false] at hy
      rcases hy with rfl | rfl | rfl | rfl | rfl | rfl | rfl
      · exact .odd (.base .non) (kit_ty (by decide +kernel))
      · exact .set gw1 (by decide +kernel) (.told (.inl ⟨(0, 1), .inr ⟨0, rfl, rfl⟩, ⟨by decide, by decide +kernel, by decide +kernel⟩, rfl⟩))
      · exact .set gw2 (by decide +kernel) (.triesI 7)
      · exact .odd (.base (.lst gw3)) (kit_ty (by decide +kernel))
      · exact .name gw4 (by decide +kernel)
      · exact .set gw5 (by decide +kernel) (.flagN (by simp) (.base (.int _)) (kit_ty (by decide +kernel)))
      · exact .len gw6 (by decide)
    refine ⟨_, rfl, p, q, ms, j6, 7, rfl, P14, by decide, by omega, fun r2 H15 s0 s1 e15 P15 => ?_⟩
    obtain ⟨w, hw, hwm⟩ := atI_mem (xs := [V.non, .ref w1, .ref w2, .ref w3, .ref w4, .ref w5, .ref w6]) s0 s1
    have k15 : Keep p H14 H15 := Keep.of_eq e15
    refine ⟨LW, _, _, _, rfl, rfl, SqL.of (k15 LW nLp _ gLW), hw, ?_⟩
    -- its place
    refine ⟨_, rfl, p, q, ms, j6 + 1, 6, rfl, P15, by decide, by omega, fun r3 H16 z0 z1 e16 P16 => ?_⟩
    obtain ⟨at_, rfl⟩ : ∃ m : Nat, r3 = m := ⟨r3.toNat, by omega⟩
    have k16 : Keep p H14 H16 := k15.trans (Keep.of_eq e16)
    have hwb : ChB Z.K C H16 w false := (KK.keep k16 P14.at_ P16.at_).chb (wAll w hwm)
    have e14 : Same H11 H14 := e13.trans vw1
    have n16 : Nl H14 H16 := Nl.keep k16 P14.at_
    have hb16 := n16.bk (hb11.mono e14)
    have hmd16 := n16.mds (hmd11.mono e14)
    have hMp : M ≠ p := fun z => by rw [z, (P6.mono e7).at_] at hM; cases hM
    have hBp : B ≠ p := fun z => by rw [z, (P6.mono (e7.trans (e79.trans e10))).at_] at hB; cases hB
    have hM16 := k16 M hMp _ (e14 _ _ hM11)
    have hB16 := k16 B hBp _ (e14 _ _ hB11)
    have hpl16 := (hpl11.mono e14).keep k16 P14.at_
    -- few
    refine ⟨_, rfl, M, _, rfl, .inl (SqL.of hM16), _, _, rfl, ?_⟩
    generalize hm4 : min 4 mm.length = m4
    have hm4l : m4 ≤ mm.length ∧ m4 ≤ 4 := by omega
    have hmc := hmd16.length
    refine ⟨((m4 : Nat) : Int), ?_, by omega, by omega, fun Fw hFw => ?_⟩
    · congr 2
      rw [← hm4]
      split <;> omega
    refine lc_range (lo := 0) (n := m4) (fun i H' => H' Fw = some (.lst (firsts fs mm i)) ∧ Same H16 H') ⟨upd_same, Same.upd hFw⟩ ?_ ?_
    · rintro i H17 hi ⟨hF17, e17⟩
      have hB17 := e17 _ _ hB16
      have hM17 := e17 _ _ hM16
      refine ⟨rfl, ?_⟩
      refine ⟨_, rfl, _, rfl, B, _, rfl, .inl (SqL.of hB17), rfl, ?_, ?_⟩
      · rw [List.all_map]
        exact List.all_eq_true.mpr fun _ _ => rfl
      show ∃ kk, V.bl (!inV (.int ((0 : Int) + (i : Int))) ((ags fs fs.length).map fun j : Nat => V.int (j : Nat))) = V.bl kk ∧ _
      rw [Int.zero_add, inV_int, mem_ags (by omega)]
      refine ⟨_, rfl, ?_⟩
      cases hr' : rep fs i with
      | true =>
        refine iteF ⟨?_, e17⟩
        rw [firsts_succ, hr', if_pos rfl, List.append_nil]
        exact hF17
      | false =>
        obtain ⟨m, hm⟩ : ∃ m, mm[i]? = some m := ⟨mm[i]'(by omega), List.getElem?_eq_getElem _⟩
        have hat : atI mm (i : Int) = some m := by
          unfold atI ixN
          rw [if_pos (by omega), if_pos (by omega)]
          simpa using hm
        refine iteT ⟨_, rfl, _, rfl, M, _, _, _, rfl, rfl, SqL.of hM17, hat, _, hF17, ?_, ?_, fun c' o hc' => ?_⟩
        · have := firsts_len fs mm i
          exact small1000' (by omega)
        · rw [upd_same, firsts_succ, hr', if_neg (by simp), hm]
          rfl
        · rw [upd_ne (ne_of_none hc' hFw)]
          exact e17 _ _ hc'
    rintro H17 ⟨hF17, e17⟩
    have hmf : Mds C H17 (firsts fs mm m4) (firsts fs cs m4) := firsts_mds (hmd16.mono e17) m4 (by omega)
    have hndf : ((firsts fs cs m4).map (·.1)).Nodup := by
      have := firsts_nd (cs := cs) (n := m4) (by omega)
      rw [hfs] at this
      exact this
    have hfl4 : (firsts fs mm m4).length ≤ 4 := Nat.le_trans (firsts_len fs mm m4) hm4l.2
    have hb17 := hb16.mono e17
    have hwb17 := hwb.mono e17
    have hM17 := e17 _ _ hM16
    have hmd17 := hmd16.mono e17
    have hpl17 := hpl16.mono e17
    generalize firsts fs mm m4 = fw at hF17 hmf hfl4
    generalize firsts fs cs m4 = fc at hmf hndf
    have hww : ∀ Hx, DSF w w true Hx := by
      intro Hx
      simp only [List.mem_cons, List.not_mem_nil, or_false] at hwm
      rcases hwm with rfl | rfl | rfl | rfl | rfl | rfl | rfl
      · exact .inl ⟨rfl, rfl, rfl⟩
      · exact .inr ⟨_, rfl, rfl, rfl⟩
      · exact .inr ⟨_, rfl, rfl, rfl⟩
      · exact .inr ⟨_, rfl, rfl, rfl⟩
      · exact .inr ⟨_, rfl, rfl, rfl⟩
      · exact .inr ⟨_, rfl, rfl, rfl⟩
      · exact .inr ⟨_, rfl, rfl, rfl⟩
    -- the wrong one among the few
    refine ⟨_, rfl, _, rfl, _, rfl, _, rfl, Fw, fw, rfl, SqL.of hF17, fun s1 hs1 => ?_⟩
    rw [cut_to']
    have y1 := Same.upd (o := .lst (fw.take at_)) hs1
    have a1 : (upd H17 s1 (.lst (fw.take at_))) s1 = _ := upd_same
    generalize (upd H17 s1 (.lst (fw.take at_))) = J1 at y1 a1
    refine ⟨_, rfl, (by show 1 ≤ sizeLine; decide), fun x1 hx1 => ?_⟩
    have y2 := y1.trans (Same.upd (o := .lst [w]) hx1)
    have a2 := Same.upd (o := .lst [w]) hx1 _ _ a1
    have b2 : (upd J1 x1 (.lst [w])) x1 = _ := upd_same
    generalize (upd J1 x1 (.lst [w])) = J2 at y2 a2 b2
    refine ⟨s1, x1, _, _, rfl, rfl, a2, b2, ?_, fun c1 hc1 => ?_⟩
    · have : (fw.take at_).length ≤ fw.length := by rw [List.length_take]; omega
      exact Nat.le_of_lt (small1000' (by simp; omega))
    have y3 := y2.trans (Same.upd (o := .lst (fw.take at_ ++ [w])) hc1)
    have a3 : (upd J2 c1 (.lst (fw.take at_ ++ [w]))) c1 = _ := upd_same
    generalize (upd J2 c1 (.lst (fw.take at_ ++ [w]))) = J3 at y3 a3
    refine ⟨_, rfl, _, rfl, _, rfl, Fw, fw, rfl, SqL.of (y3 _ _ hF17), fun s2 hs2 => ?_⟩
    rw [cut_from]
    have y4 := y3.trans (Same.upd (o := .lst (fw.drop at_)) hs2)
    have a4 := Same.upd (o := .lst (fw.drop at_)) hs2 _ _ a3
    have b4 : (upd J3 s2 (.lst (fw.drop at_))) s2 = _ := upd_same
    generalize (upd J3 s2 (.lst (fw.drop at_))) = J4 at y4 a4 b4
    have hdl : (fw.take at_).length + (fw.drop at_).length = fw.length := by rw [List.length_take, List.length_drop]; omega
    refine ⟨c1, s2, _, _, rfl, rfl, a4, b4, Nat.le_of_lt (small1000' (by simp only [List.length_append, List.length_cons, List.length_nil]; omega)), fun c2 hc2 => ?_⟩
    have y5 := y4.trans (Same.upd (o := .lst ((fw.take at_ ++ [w]) ++ fw.drop at_)) hc2)
    have a5 : (upd J4 c2 (.lst ((fw.take at_ ++ [w]) ++ fw.drop at_))) c2 = _ := upd_same
    generalize (upd J4 c2 (.lst ((fw.take at_ ++ [w]) ++ fw.drop at_))) = J5 at y5 a5
    refine ⟨(by show 1 ≤ sizeLine; decide), fun x2 hx2 => ?_⟩
    have y6 := y5.trans (Same.upd (o := .lst [.non]) hx2)
    have a6 := Same.upd (o := .lst [.non]) hx2 _ _ a5
    have b6 : (upd J5 x2 (.lst [.non])) x2 = some (.lst [.non]) := upd_same
    generalize (upd J5 x2 (.lst [.non])) = J6 at y6 a6 b6
    refine ⟨_, rfl, Fw, _, rfl, .inl (SqL.of (y6 _ _ hF17)), _, _, rfl, rfl, ?_⟩
    generalize hk : ((4 : Int) - ((fw.length : Nat) : Int)).toNat = kn
    refine ⟨x2, _, _, rfl, rfl, b6, by omega, by omega, ?_, fun x3 hx3 => ?_⟩
    · rw [hk]
      exact Nat.le_of_lt (small1000' (by simp only [List.length_cons, List.length_nil]; omega))
    rw [hk]
    have hrl : ((List.replicate kn [V.non]).flatten).length = kn := by simp
    generalize (List.replicate kn [V.non]).flatten = rs at hrl
    have y7 := y6.trans (Same.upd (o := .lst rs) hx3)
    have a7 := Same.upd (o := .lst rs) hx3 _ _ a6
    have b7 : (upd J6 x3 (.lst rs)) x3 = some (.lst rs) := upd_same
    generalize (upd J6 x3 (.lst rs)) = J7 at y7 a7 b7
    refine ⟨c2, x3, _, _, rfl, rfl, a7, b7, Nat.le_of_lt (small1000' (by simp only [List.length_append, List.length_cons, List.length_nil]; omega)), fun c3 hc3 => ?_⟩
    have elist : ((fw.take at_ ++ [w]) ++ fw.drop at_) ++ rs = fw.take at_ ++ (w :: (fw.drop at_ ++ rs)) := by simp
    rw [elist]
    have y8 := y7.trans (Same.upd (o := .lst (fw.take at_ ++ (w :: (fw.drop at_ ++ rs)))) hc3)
    have a8 : (upd J7 c3 (.lst (fw.take at_ ++ (w :: (fw.drop at_ ++ rs))))) c3 = some (.lst (fw.take at_ ++ (w :: (fw.drop at_ ++ rs)))) := upd_same
    generalize (upd J7 c3 (.lst (fw.take at_ ++ (w :: (fw.drop at_ ++ rs))))) = J8 at y8 a8
    refine ⟨vb, .ref c3, true, w, rfl, err_wrong (hb17.mono y8) a8 (hmf.mono y8) hndf (by simp only [List.length_append, List.length_cons]; omega) (hwb17.mono y8), fun t3 J9 e9' ht9 => ?_⟩
    refine ⟨_, rfl, (by show 2 ≤ sizeLine; decide), fun t4 ht4 => ?_⟩
    have y9 := y8.trans (e9'.trans (Same.upd (o := .tup [.str "change", w]) ht4))
    refine ⟨true, ⟨t3, t4, _, _, rfl, rfl, SqT.of (Same.upd ht4 _ _ ht9), SqT.of upd_same, .yes (.inl ⟨rfl, rfl, rfl⟩) (.yes (hww _) .nil), fun _ => rfl⟩, fun J10 e10' => ⟨_, rfl, iteF ?_⟩⟩
    have z10 := y9.trans e10'
    have hb18 := hb17.mono z10
    have hM18 := z10 _ _ hM17
    have hF18 := z10 _ _ hF17
    have hpl18 := hpl17.mono z10
    -- odd values
    refine ⟨_, rfl, Fw, fw, rfl, .inl ⟨SqL.of hF18, fun o1 ho1 => ?_⟩⟩
    have x1' := Same.upd (o := .tup fw) ho1
    have d1 : (upd J10 o1 (.tup fw)) o1 = some (.tup fw) := upd_same
    generalize (upd J10 o1 (.tup fw)) = K1 at x1' d1
    refine ⟨_, rfl, _, rfl, M, mm, rfl, SqL.of (x1' _ _ hM18), fun o2 ho2 => ?_⟩
    rw [show cutV mm none (some (1 : Int)) = mm.take 1 from cut_to' mm 1]
    have x2' := Same.upd (o := .lst (mm.take 1)) ho2
    have d2 : (upd K1 o2 (.lst (mm.take 1))) o2 = some (.lst (mm.take 1)) := upd_same
    have d12 := x2' _ _ d1
    generalize (upd K1 o2 (.lst (mm.take 1))) = K2 at x2' d2 d12
    have ht1 : (mm.take 1).length ≤ 1 := by rw [List.length_take]; omega
    refine ⟨o2, 6, _, rfl, rfl, d2, by decide, by decide, Nat.le_of_lt (small1000' (by show (mm.take 1).length * 6 ≤ 100000; omega)), fun o3 ho3 => ?_⟩
    have x3' := Same.upd (o := .lst (List.replicate (6 : Int).toNat (mm.take 1)).flatten) ho3
    have d3 : (upd K2 o3 (.lst (List.replicate (6 : Int).toNat (mm.take 1)).flatten)) o3 = some (.lst (List.replicate (6 : Int).toNat (mm.take 1)).flatten) := upd_same
    have d13 := x3' _ _ d12
    generalize (upd K2 o3 (.lst (List.replicate (6 : Int).toNat (mm.take 1)).flatten)) = K3 at x3' d3 d13
    refine ⟨(by show 4 ≤ sizeLine; decide), fun o4 ho4 => ?_⟩
    have x4' := Same.upd (o := .lst [.non, .ref o1, .ref o3, .str "told"]) ho4
    have d4 : (upd K3 o4 (.lst [.non, .ref o1, .ref o3, .str "told"])) o4 = some (.lst [.non, .ref o1, .ref o3, .str "told"]) := upd_same
    have d34 := x4' _ _ d3
    have d14 := x4' _ _ d13
    have x14 := ((x1'.trans x2').trans x3').trans x4'
    generalize (upd K3 o4 (.lst [.non, .ref o1, .ref o3, .str "told"])) = K4 at x4' d4 d34 d14 x14
    have hb19 := hb18.mono x14
    have hpl19 := hpl18.mono x14
    refine ⟨o4, rfl, ⟨_, SqL.of d4⟩, for_list (K := Z.K) (a := o4) (xs := [.non, .ref o1, .ref o3, .str "told"]) (fun i σ H' => ∃ o13, σ = [some (.ref a), some (.ref ap), some (.ref p), some (.ref D), none, some vb, some (.ref M), none, some (.ref G), some (.ref B), some w, some (.int at_), some (.ref Fw), o13] ∧ Same K4 H') ⟨_, rfl, Same.refl _⟩ (fun i σ H' _ ⟨_, _, e⟩ => SqL.of (e _ _ d4)) ?_ ?_⟩
    · rintro i y σ K5 hy ⟨o13, rfl, f5⟩
      have hym := List.mem_of_getElem? hy
      have one : ∀ (l : Addr), K5 l = none → DSF y y true (upd K5 l (.lst [])) → ErrC Z.K C CB (upd K5 l (.lst [])) vb y true y → ∀ {Qx : Bool → Hp → Prop}, (∀ Hx, Same (upd K5 l (.lst [])) Hx → Qx false Hx) → True := fun _ _ _ _ _ _ => trivial
      simp only [List.mem_cons, List.not_mem_nil, or_false] at hym
      refine ⟨_, rfl, (by show 0 ≤ sizeLine; decide), fun l hl' => ?_⟩
      have f6 := Same.upd (o := .lst []) hl'
      have f46 := f5.trans f6
      have dl : (upd K5 l (.lst [])) l = some (.lst []) := upd_same
      generalize (upd K5 l (.lst [])) = K6 at f6 f46 dl
      have hb20 := hb19.mono f46
      rcases hym with rfl | rfl | rfl | rfl
      · refine .inl ⟨l, rfl, SqL.of dl, .inr (.inr (.inl rfl)), _, rfl, iteT ?_⟩
        refine ⟨_, rfl, _, rfl, vb, .non, true, .non, rfl, .notl hb20 (.base .non) (kit_ty (by decide +kernel)), fun t K7 f7 ht7 => ?_⟩
        refine ⟨_, rfl, (by show 2 ≤ sizeLine; decide), fun t8 ht8 => ?_⟩
        exact ⟨true, ⟨t, t8, _, _, rfl, rfl, SqT.of (Same.upd ht8 _ _ ht7), SqT.of upd_same, .yes (.inl ⟨rfl, rfl, rfl⟩) (.yes (.inl ⟨rfl, rfl, rfl⟩) .nil), fun _ => rfl⟩, fun K9 f9 => ⟨_, rfl, iteF ⟨_, rfl, (f46.trans f7).trans ((Same.upd ht8).trans f9)⟩⟩⟩
      · refine .inl ⟨l, rfl, SqL.of dl, .inr (.inl ⟨o1, fw, rfl, SqT.of (f46 _ _ d14)⟩), _, rfl, iteT ?_⟩
        refine ⟨_, rfl, _, rfl, vb, .ref o1, true, .ref o1, rfl, .notl hb20 (.base (.tup (f46 _ _ d14))) (kit_ty (by decide +kernel)), fun t K7 f7 ht7 => ?_⟩
        refine ⟨_, rfl, (by show 2 ≤ sizeLine; decide), fun t8 ht8 => ?_⟩
        exact ⟨true, ⟨t, t8, _, _, rfl, rfl, SqT.of (Same.upd ht8 _ _ ht7), SqT.of upd_same, .yes (.inl ⟨rfl, rfl, rfl⟩) (.yes (.inr ⟨_, rfl, rfl, rfl⟩) .nil), fun _ => rfl⟩, fun K9 f9 => ⟨_, rfl, iteF ⟨_, rfl, (f46.trans f7).trans ((Same.upd ht8).trans f9)⟩⟩⟩
      · have d36 := f46 _ _ d34
        cases hmm : mm with
        | nil =>
          rw [hmm] at d36
          have d36 : K6 o3 = some (.lst []) := d36
          exact .inr ⟨.list [], .list [], .lst (SqL.of d36) .nil, .lst (SqL.of dl) .nil, rfl, rfl, _, rfl, iteF ⟨_, rfl, f46⟩⟩
        | cons m0 mr =>
          rw [hmm] at d36
          have d36 : K6 o3 = some (.lst [m0, m0, m0, m0, m0, m0]) := d36
          refine .inl ⟨l, rfl, SqL.of dl, .inl ⟨o3, _, rfl, SqL.of d36, by simp⟩, _, rfl, iteT ?_⟩
          refine ⟨_, rfl, _, rfl, vb, .ref o3, true, .ref o3, rfl, .long hb20 d36 (by show 5 < 6; decide), fun t K7 f7 ht7 => ?_⟩
          refine ⟨_, rfl, (by show 2 ≤ sizeLine; decide), fun t8 ht8 => ?_⟩
          exact ⟨true, ⟨t, t8, _, _, rfl, rfl, SqT.of (Same.upd ht8 _ _ ht7), SqT.of upd_same, .yes (.inl ⟨rfl, rfl, rfl⟩) (.yes (.inr ⟨_, rfl, rfl, rfl⟩) .nil), fun _ => rfl⟩, fun K9 f9 => ⟨_, rfl, iteF ⟨_, rfl, (f46.trans f7).trans ((Same.upd ht8).trans f9)⟩⟩⟩
      · refine .inl ⟨l, rfl, SqL.of dl, .inr (.inr (.inr ⟨_, rfl⟩)), _, rfl, iteT ?_⟩
        refine ⟨_, rfl, _, rfl, vb, .str "told", true, .str "told", rfl, .notl hb20 (.base (.str _)) (kit_ty (by decide +kernel)), fun t K7 f7 ht7 => ?_⟩
        refine ⟨_, rfl, (by show 2 ≤ sizeLine; decide), fun t8 ht8 => ?_⟩
        exact ⟨true, ⟨t, t8, _, _, rfl, rfl, SqT.of (Same.upd ht8 _ _ ht7), SqT.of upd_same, .yes (.inl ⟨rfl, rfl, rfl⟩) (.yes (.inl ⟨rfl, rfl, rfl⟩) .nil), fun _ => rfl⟩, fun K9 f9 => ⟨_, rfl, iteF ⟨_, rfl, (f46.trans f7).trans ((Same.upd ht8).trans f9)⟩⟩⟩
    rintro σ K5 ⟨o13, rfl, f5⟩
    have hb21 := hb19.mono f5
    have hpl21 := hpl19.mono f5
    -- no book
    refine ⟨_, rfl, .ref ap, .non, false, .ref ap, rfl, .arg (.base (.dK hpl21.d)) kDC, fun t K6 f6 ht6 => ?_⟩
    refine ⟨_, rfl, (by show 2 ≤ sizeLine; decide), fun t7 ht7 => ?_⟩
    refine ⟨true, ⟨t, t7, _, _, rfl, rfl, SqT.of (Same.upd ht7 _ _ ht6), SqT.of upd_same, .yes (.inl ⟨rfl, rfl, rfl⟩) (.yes (.inr ⟨_, rfl, rfl, rfl⟩) .nil), fun _ => rfl⟩, fun K8 f8 => ⟨_, rfl, iteF ?_⟩⟩
    have f58 := f6.trans ((Same.upd (o := .tup [.str "argument", .ref ap]) ht7).trans f8)
    -- nothing changed
    refine ⟨_, rfl, (by show 0 ≤ sizeLine; decide), fun l hl' => ?_⟩
    have f9 := f58.trans (Same.upd (o := .lst []) hl')
    refine ⟨vb, .ref l, rfl, .inr ⟨_, hb21.mono f9, .inr ⟨l, [], rfl, upd_same, .inr ⟨by decide, 0, [], [], ⟨rfl, rfl, List.nodup_nil, fun j k z h => by simp at h⟩, .inr ⟨rfl, fun K10 f10 => ?_⟩⟩⟩⟩⟩
    refine kg_all (cs := []) (zs := []) ((hb21.mono f9).mono f10) hok (fun c hc => by cases hc) trivial (by decide) fun u K11 f11 hu => ?_
    have f511 := (f9.trans f10).trans f11
    refine ⟨_, rfl, hu.ins, (hb21.mono f511).nf K J, u, vb, _, rfl, hu, .inl ⟨_, hb21.mono f511, fun K12 f12 => ⟨_, rfl, _, rfl, ?_⟩⟩⟩
    rw [show decide (bkOfPl (withs pl []) = bkOfPl pl) = true from decide_eq_true rfl]
    refine iteF ?_
    have f512 := f511.trans f12
    refine ⟨_, rfl, _, rfl, ap, pl, _, _, rfl, hpl21.mono f512, hok, fun v2 K13 f13 hb22 => ?_⟩
    have hbz := (hb21.mono f512).mono f13
    refine ⟨hbz.ins, hb22.nf K J, vb, v2, _, rfl, hbz, .inl ⟨_, hb22, fun K14 f14 => ?_⟩⟩
    rw [decide_eq_true rfl]
    exact k _
end
end Ps

/-! Own errors behind the top. -/
namespace Ps
open PySem PySem.Spec PyProof.Rows PySem.W L2 He

def excObjB (K : Frag) (C P : Addr) : Bool := match K.lookup C with
  | some ⟨.type "type", _, .cls cd, sl⟩ => (match sl.toList with
    | [_, _, _, _, some (.builtin n), _] => decide (cd.mro = .ref C :: .ref P :: ESX.exTail) && (decide (n = "Exception.__new__") && (!cd.hasDel && cd.hasDict))
    | _ => false)
  | _ => false
theorem excObjB_ok {K : Frag} {C P : Addr} (h : excObjB K C P = true) : ∃ nm q N bs sn sub ab col dd k0 k1 k2 k3 k5, K.lookup C = some (excClassObj nm q C N bs (.ref P :: ESX.exTail) true sn sub ab col dd k0 k1 k2 k3 k5 "Exception.__new__") := by
  unfold excObjB at h
  split at h
  · rename_i dd cd sl ho
    split at h
    · rename_i k0 k1 k2 k3 n k5 hs
      obtain ⟨h1, h⟩ := ba h
      obtain ⟨h2, h⟩ := ba h
      obtain ⟨h3, h4⟩ := ba h
      have h1 := of_decide_eq_true h1
      have h2 := of_decide_eq_true h2
      obtain ⟨nm, bs, mro, ns, qn, hd, sn, sub, ab, col, del⟩ := cd
      dsimp only at h1 h3 h4
      have h3 : del = false := by simpa using h3
      subst h1 h2 h3 h4
      have hsl : sl = #[k0, k1, k2, k3, some (.builtin "Exception.__new__"), k5] := by
        obtain ⟨l⟩ := sl
        simp only at hs
        rw [hs]
      subst hsl
      exact ⟨nm, qn, ns, bs, sn, sub, ab, col, dd, k0, k1, k2, k3, k5, ho⟩
    · cases h
  · cases h
def excB (K : Frag) (x fl : Str) : Bool := excObjB K (ga K x) (ga K "PlanError") && ((Fa.glo x).ok K && (eqO (findIn K (.ref (ga K x)) "__setattr__") (some (some (.builtin "object.__setattr__"))) && (eqO (findIn K (.ref (ga K x)) fl) (some none) &&
  (keepIn K (.ref (ga K x)) && (decide (typeIn K (.ref (ga K x)) = some (.type "type")) && xfB K (ga K x))))))
theorem excB_ok {K : Frag} {h : Heap} {mg : Str → Option Value} {x fl qual : Str} {st : Stmt} {f : Addr} {fd : FuncData} {p1 p2 q1 q2 q3 q4 : Pos} (X : K.In h) (G : h.Ns mainGlobals mg) (c : excB K x fl = true) (g : GotM K (ga K x) "__init__" qual st f fd)
    (hA : defArgs st = xA fl p1 p2) (hB : defBody st = xB fl q1 q2 q3 q4) (hS : defScope st = xS fl) : ExT K mg x fl qual (ga K x) (ga K "PlanError") f := by
  obtain ⟨c1, c⟩ := ba c
  obtain ⟨c2, c⟩ := ba c
  obtain ⟨c3, c⟩ := ba c
  obtain ⟨c4, c⟩ := ba c
  obtain ⟨c5, c⟩ := ba c
  obtain ⟨c6, c7⟩ := ba c
  obtain ⟨oc, od, kV, doc, pm, an, cdv, ct, osl, rfl, lk, hcd⟩ := g.F.ex
  rw [hA, hB, hS] at lk
  exact ⟨glo_ok X G c2, excObjB_ok c1, eqO_ok c3, eqO_ok c4, g.o.fn, beq_iff_eq.mp g.o.isf, c5, of_decide_eq_true c6, xfB_ok c7, ⟨oc, od, kV, doc, pm, an, cdv, ct, osl, p1, p2, q1, q2, q3, q4, lk, hcd⟩⟩
def exmB (K : Frag) (x y : Str) (b : Bool) : Bool := decide (exmOne K (.ref (ga K x)) (.ref (ga K y)) = some b)
def noSubB (K : Frag) (C : Addr) (Ts : List String) : Bool := Ts.all fun T => decide (subIn K (.ref C) (.type T) = some false)
end Ps

/-! Shares behind the top: facts by a Bool. -/
namespace Ps
open PySem PySem.Spec PyProof.Rows PySem.W L2 He

/-- a class of the text whose instances' types are asked -/
def ownB (K : Frag) (C : Addr) : Bool := eqO (findIn K (.ref C) "__class__") (some (some (.builtin "object.__class__"))) && (eqO (specialIn K (.builtin "object.__class__") "__get__") (some (some (.builtin "getset_descriptor.__get__"))) && (decide (takesIn K (.builtin "object.__class__") = some true) && decide (mroIn K C (.type "object") = some true)))
def shB (K : Frag) : Bool := (Fa.cls "Share").ok K && ((Fa.mkr "Share").ok K && ((Fa.noat "Share" "own_top").ok K && ((Fa.noat "Share" "own_under").ok K && ((Fa.glo "Share").ok K && (freeB K ["isinstance", "int", "bool", "abs", "len", "range", "max", "min"] && (ownB K (ga K "Share") &&
  (decide (kitOne K (.ref (ga K "Share")) (.ref (ga K "Share")) = some true) && (decide (kitOne K (.ref (ga K "Share")) (.type "int") = some false) && (decide (kitOne K (.type "int") (.ref (ga K "Share")) = some false) && ([.type "bool", .type "str", .type "NoneType", .type "list", .type "tuple", .type "dict"] : List Value).all fun t => decide (kitOne K t (.ref (ga K "Share")) = some false))))))))))
def numsB (K : Frag) : Bool := numB K (ga K "Share") "add" && (numB K (ga K "Share") "sub" && numB K (ga K "Share") "mul")
def neB (K : Frag) (C : Addr) : Bool := eqO (findIn K (.ref C) "__ne__") (some (some (.builtin "object.__ne__"))) && decide (mroIn K C (.type "object") = some true)
theorem neB_ok {K : Frag} {C : Addr} (c : neB K C = true) : NeT K C := by
  obtain ⟨c1, c2⟩ := ba c
  exact ⟨eqO_ok c1, of_decide_eq_true c2⟩
def rflB (K : Frag) (C : Addr) (nm : String) : Bool := findB K C (dunderR nm)
theorem rflB_ok {K : Frag} {C : Addr} {nm : String} (c : rflB K C nm = true) : Rfl K C nm := ⟨⟨_, eqO_ok c, .inr ⟨_, rfl⟩⟩⟩
def noiB (K : Frag) (C : Addr) (nm : String) : Bool := (clsIn K C).any (fun cd => decide (cd.mro = [.ref C, .type "object"])) && (eqO (findIn K (.ref C) (dunderI nm)) (some none) && decide (fastLookup "object" (dunderI nm) = some none))
theorem noiB_ok {K : Frag} {C : Addr} {nm : String} (c : noiB K C nm = true) : NoI K C nm := by
  obtain ⟨c1, c⟩ := ba c
  obtain ⟨c2, c3⟩ := ba c
  obtain ⟨cd, hc, hm⟩ := any_some c1
  exact ⟨⟨cd, hc, of_decide_eq_true hm⟩, eqO_ok c2, of_decide_eq_true c3⟩
section
variable {K : Frag} {h : Heap} {mg : Str → Option Value}
theorem shB_ok {P : Program} {w : World} {base : Heap} (X : K.In h) (G : h.Ns mainGlobals mg) (c : shB K = true) : ShT ⟨P, w, K, mg, base⟩ (ga K "Share") ∧ DrT ⟨P, w, K, mg, base⟩ ∧ Mk K (ga K "Share") (ma K (ga K "Share") "__init__") := by
  obtain ⟨c1, c⟩ := ba c
  obtain ⟨c2, c⟩ := ba c
  obtain ⟨c3, c⟩ := ba c
  obtain ⟨c4, c⟩ := ba c
  obtain ⟨c5, c⟩ := ba c
  obtain ⟨c6, c⟩ := ba c
  obtain ⟨c7, c⟩ := ba c
  obtain ⟨c8, c⟩ := ba c
  obtain ⟨c9, c⟩ := ba c
  obtain ⟨c10, c11⟩ := ba c
  obtain ⟨d1, d⟩ := ba c7
  obtain ⟨d2, d⟩ := ba d
  obtain ⟨d3, d4⟩ := ba d
  have f := fun {x : Str} (hx : x ∈ (["isinstance", "int", "bool", "abs", "len", "range", "max", "min"] : List Str)) => freeB_ok X G c6 hx
  exact ⟨⟨cls_ok c1, noat_ok c3, noat_ok c4, glo_ok X G c5, f (by simp), f (by simp), f (by simp), f (by simp), eqO_ok d1, eqO_ok d2, of_decide_eq_true d3, of_decide_eq_true d4, of_decide_eq_true c8, of_decide_eq_true c9, of_decide_eq_true c10, fun t ht => of_decide_eq_true (List.all_eq_true.mp c11 t ht)⟩,
    ⟨f (by simp), f (by simp), f (by simp), f (by simp), f (by simp)⟩, mkr_ok c2⟩
end
section
variable {Z : Cz} {h : Heap} {fn : List DefP} {ex : Frag → Bool}
/-- Share(..) -/
theorem mk_cals (X : Z.K.In h) (G : h.Ns mainGlobals Z.mg) (T : ShT Z (ga Z.K "Share")) (M : Mk Z.K (ga Z.K "Share") (ma Z.K (ga Z.K "Share") "__init__"))
    (g1 : ∃ f fd, Got Z.K Z.mg "is_integer" s_is_integer f fd) (g2 : ∃ f fd, Got Z.K Z.mg "common" s_common f fd)
    (g3 : ∃ fd, FunD Z.K "__init__" "Share.__init__" (defArgs s_Share_dd_init) (defBody s_Share_dd_init) (defScope s_Share_dd_init) [.int 1] [] (ma Z.K (ga Z.K "Share") "__init__") fd) :
    Cal Z CX0 1 "is_integer" ["value"] [] (spIsInt Z.K) ∧ CShare Z (ga Z.K "Share") ∧ CShare1 Z (ga Z.K "Share") := by
  obtain ⟨f1, fd1, g1⟩ := g1
  obtain ⟨f2, fd2, g2⟩ := g2
  obtain ⟨fd3, F3⟩ := g3
  have c1 := g1.cal (ok_is_integer g1.F T) (g1.F.binds fun _ _ _ _ _ _ us hl => match us, hl with | [_], _ => rfl)
  have c2 := g2.cal (ok_common g2.F T) (g2.F.binds fun _ _ _ _ _ _ us hl => match us, hl with | [_, _], _ => rfl)
  have k3 := ok_ShInit F3 T c1 c2
  obtain ⟨d1, v1, b1⟩ := FunD.binds1 (ps := ["self", "top", "under"]) F3 3 1 (by simp) rfl (fun T kV doc pm an cdv ct us its hl hi => match us, hl, its, hi with | [_, _, _], _, [_], _ => ⟨_, rfl, rfl⟩)
  obtain ⟨d2, v2, b2⟩ := FunD.binds1 (ps := ["self", "top", "under"]) F3 2 0 (by simp) rfl (fun T kV doc pm an cdv ct us its hl hi => match us, hl, its, hi with | [_, _], _, [_], _ => ⟨_, rfl, rfl⟩)
  exact ⟨c1, ⟨_, _, _, k3, M, T.mgC, b1, v1⟩, ⟨_, _, _, k3, M, T.mgC, b2, v2⟩⟩
end
end Ps

/-! Books behind the top. -/
namespace Ps
open PySem PySem.Spec PyProof.Rows PySem.W L2 He

def txtB (K : Frag) (x z : Str) : Bool := match nsIn K mainGlobals x with
  | some (some (.str y _)) => decide (y = z)
  | _ => false
theorem txtB_ok {K : Frag} {h : Heap} {mg : Str → Option Value} {x z : Str} (X : K.In h) (G : h.Ns mainGlobals mg) (c : txtB K x z = true) : ∃ t, mg x = some (.str z t) := by
  unfold txtB at c
  split at c
  · rename_i y t e
    obtain rfl := of_decide_eq_true c
    exact ⟨t, mg_of X G e⟩
  · cases c
def intB (K : Frag) (x : Str) (i : Int) : Bool := match nsIn K mainGlobals x with
  | some (some (.int j _)) => decide (j = i)
  | _ => false
theorem intB_ok {K : Frag} {h : Heap} {mg : Str → Option Value} {x : Str} {i : Int} (X : K.In h) (G : h.Ns mainGlobals mg) (c : intB K x i = true) : ∃ t, mg x = some (.int i t) := by
  unfold intB at c
  split at c
  · rename_i y t e
    obtain rfl := of_decide_eq_true c
    exact ⟨t, mg_of X G e⟩
  · cases c
def relsB : List V → List Value → Bool
  | [], [] => true
  | v :: vs, u :: us => relVB v u && relsB vs us
  | _, _ => false
theorem relsB_ok : ∀ {vs : List V} {us : List Value}, relsB vs us = true → Vals vs us
  | [], [], _ => .nil
  | [], _ :: _, h => by cases h
  | _ :: _, [], h => by cases h
  | v :: vs, u :: us, h => by
    obtain ⟨h1, h2⟩ := ba (show (relVB v u && relsB vs us) = true from h)
    exact .cons (relVB_ok h1) (relsB_ok h2)
def tupB (K : Frag) (x : Str) (xs : List V) : Bool := match nsIn K mainGlobals x with
  | some (some (.ref a)) => (match K.lookup a with
    | some ⟨.type "tuple", _, .seq its _, _⟩ => decide (its.size ≤ sizeLine) && relsB xs its.toList
    | _ => false)
  | _ => false
theorem tupB_ok {K : Frag} {h : Heap} {mg : Str → Option Value} {x : Str} {xs : List V} (X : K.In h) (G : h.Ns mainGlobals mg) (c : tupB K x xs = true) : ∃ a, mg x = some (.ref a) ∧ ∀ H, SqT K H a xs := by
  unfold tupB at c
  split at c
  · rename_i a e
    split at c
    · rename_i dd its n sl lk
      obtain ⟨c1, c2⟩ := ba c
      exact ⟨a, mg_of X G e, fun H => .inr ⟨_, its, n, lk, rfl, rfl, of_decide_eq_true c1, relsB_ok c2⟩⟩
    · cases c
  · cases c
def bkKws : List (Str × V) := [("factor", .int 1), ("equal", .bl false), ("sliding", .bl false), ("after", .str "ever"), ("keep", .bl true)]
def bkB (K : Frag) : Bool := (Fa.cls "Book").ok K && ((Fa.mkr "Book").ok K && ((Fa.noat "Book" "settings").ok K && ((Fa.glo "Book").ok K && (ownB K (ga K "Book") && (decide (kitOne K (.ref (ga K "Book")) (.ref (ga K "Book")) = some true) && (decide (kitOne K (.type "int") (.ref (ga K "Book")) = some false) &&
  (freeB K ["str", "tuple", "len", "all", "isinstance"] && (txtB K "EVER" "ever" && (intB K "MOST_TRIES" 6 && (intB K "MOST_LOOK" 9 && (tupB K "FIELDS" (stF.map V.str) && kwdB K (ma K (ga K "Book") "__init__") bkKws)))))))))))
section
variable {K : Frag} {h : Heap} {mg : Str → Option Value}
theorem bkB_ok {P : Program} {w : World} {base : Heap} (X : K.In h) (G : h.Ns mainGlobals mg) (c : bkB K = true) : BkT ⟨P, w, K, mg, base⟩ ∧ BkC ⟨P, w, K, mg, base⟩ (ga K "Book") ∧ BkI ⟨P, w, K, mg, base⟩ (ga K "Book") ∧ Mk K (ga K "Book") (ma K (ga K "Book") "__init__") ∧ kwdB K (ma K (ga K "Book") "__init__") bkKws = true := by
  obtain ⟨c1, c⟩ := ba c
  obtain ⟨c2, c⟩ := ba c
  obtain ⟨c3, c⟩ := ba c
  obtain ⟨c4, c⟩ := ba c
  obtain ⟨c5, c⟩ := ba c
  obtain ⟨c6, c⟩ := ba c
  obtain ⟨c7, c⟩ := ba c
  obtain ⟨c8, c⟩ := ba c
  obtain ⟨c9, c⟩ := ba c
  obtain ⟨c10, c⟩ := ba c
  obtain ⟨c11, c⟩ := ba c
  obtain ⟨c12, c13⟩ := ba c
  obtain ⟨d1, d⟩ := ba c5
  obtain ⟨d2, d⟩ := ba d
  obtain ⟨d3, d4⟩ := ba d
  have f := fun {x : Str} (hx : x ∈ (["str", "tuple", "len", "all", "isinstance"] : List Str)) => freeB_ok X G c8 hx
  exact ⟨⟨f (by simp), f (by simp), f (by simp), f (by simp), txtB_ok X G c9, intB_ok X G c10, intB_ok X G c11, tupB_ok X G c12⟩, ⟨cls_ok c1, noat_ok c3, glo_ok X G c4⟩, ⟨eqO_ok d1, eqO_ok d2, of_decide_eq_true d3, of_decide_eq_true d4, of_decide_eq_true c6, of_decide_eq_true c7, f (by simp)⟩, mkr_ok c2, c13⟩
end
section
variable {Z : Cz} {C CB f : Addr} {fd : FuncData}
theorem book_cals (F : FunD Z.K "__init__" "Book.__init__" (defArgs s_Book_dd_init) (defBody s_Book_dd_init) (defScope s_Book_dd_init) [] bkKws f fd) (M : Mk Z.K CB f) (K : BkC Z CB) (G : Z.ok CX0 10 f fd bkPs (spBook C CB)) : CBook Z C CB ∧ CBookK Z C CB := by
  obtain ⟨d1, v1, b1⟩ := FunD.binds0 (ps := bkPs) F 3 (by simp [bkKws]) rfl (fun D doc pm an cdv ct us ks hl hk => match us, hl, ks, hk with
    | [_, _, _], _, [_, _, _, _, _], _ => ⟨_, _, _, _, _, _, rfl, rfl, _, _, _, _, _, _, rfl, rfl, _, _, _, _, _, _, rfl, rfl, _, _, _, _, _, _, rfl, rfl, _, _, _, _, _, _, rfl, rfl, rfl⟩)
  obtain ⟨mv, kb⟩ := FunD.kbinds0 (ps := bkPs) F 3 bkKs [] (fun us mv ws => us ++ ws) (by simp [bkKws]) (fun q hq => by cases hq) (fun r1 _ r3 => r1.append r3) (fun D doc pm an cdv ct us mv ws hl hm hk => match us, hl, mv, hm, ws, hk with
    | [_, _, _], _, [], _, [_, _, _, _, _], _ => rfl)
  exact ⟨⟨f, fd, d1, G, M, K.mg, b1, v1⟩, ⟨f, fd, _, G, M, K.mg, kb⟩⟩
end
end Ps

/-! k77: the end. -/
namespace Ps
open PySem PySem.Spec PyProof.Rows PySem.W L2 He

def fnAll : List DefP := [⟨.g "is_integer", "is_integer", "is_integer", s_is_integer, []⟩,
  ⟨.g "common", "common", "common", s_common, []⟩,
  ⟨.g "share_of_number", "share_of_number", "share_of_number", s_share_of_number, []⟩,
  ⟨.m "Share" "__init__", "__init__", "Share.__init__", s_Share_dd_init, [.int 1]⟩,
  ⟨.m "Book" "__init__", "__init__", "Book.__init__", s_Book_dd_init, []⟩,
  ⟨.m "BadChange" "__init__", "__init__", "BadChange.__init__", s_BadChange_dd_init, []⟩,
  ⟨.m "BadArgument" "__init__", "__init__", "BadArgument.__init__", s_BadArgument_dd_init, []⟩,
  ⟨.m "Share" "__add__", "__add__", "Share.__add__", s_Share_dd_add, []⟩,
  ⟨.m "Share" "minus", "minus", "Share.minus", s_Share_minus, []⟩,
  ⟨.m "Share" "__gt__", "__gt__", "Share.__gt__", s_Share_dd_gt, []⟩,
  ⟨.m "Share" "__ge__", "__ge__", "Share.__ge__", s_Share_dd_ge, []⟩,
  ⟨.m "Share" "__eq__", "__eq__", "Share.__eq__", s_Share_dd_eq, []⟩,
  ⟨.g "is_number", "is_number", "is_number", s_is_number, []⟩,
  ⟨.g "is_above", "is_above", "is_above", s_is_above, []⟩,
  ⟨.g "is_after", "is_after", "is_after", s_is_after, []⟩,
  ⟨.g "is_setting", "is_setting", "is_setting", s_is_setting, []⟩,
  ⟨.g "as_kept", "as_kept", "as_kept", s_as_kept, []⟩,
  ⟨.m "Book" "changed", "changed", "Book.changed", s_Book_changed, []⟩,
  ⟨.m "Book" "__eq__", "__eq__", "Book.__eq__", s_Book_dd_eq, []⟩,
  ⟨.g "check_book", "check_book", "check_book", s_check_book, []⟩,
  ⟨.g "is_change", "is_change", "is_change", s_is_change, []⟩,
  ⟨.g "changed_by", "changed_by", "changed_by", s_changed_by, []⟩,
  ⟨.g "_law_numbers", "_law_numbers", "_law_numbers", s_lw_numbers, []⟩,
  ⟨.g "_law_pool", "_law_pool", "_law_pool", s_lw_pool, []⟩,
  ⟨.g "_law_draw", "_law_draw", "_law_draw", s_lw_draw, []⟩,
  ⟨.g "_law_opened", "_law_opened", "_law_opened", s_lw_opened, []⟩,
  ⟨.g "_law_after", "_law_after", "_law_after", s_lw_after, []⟩,
  ⟨.g "_law_plan", "_law_plan", "_law_plan", s_lw_plan, []⟩,
  ⟨.g "_law_made_after", "_law_made_after", "_law_made_after", s_lw_made_after, []⟩,
  ⟨.g "_law_made_book", "_law_made_book", "_law_made_book", s_lw_made_book, []⟩,
  ⟨.g "_law_cell", "_law_cell", "_law_cell", s_lw_cell, []⟩,
  ⟨.g "_law_change_of", "_law_change_of", "_law_change_of", s_lw_change_of, []⟩,
  ⟨.g "_law_made_change", "_law_made_change", "_law_made_change", s_lw_made_change, []⟩,
  ⟨.g "_law_with", "_law_with", "_law_with", s_lw_with, []⟩,
  ⟨.g "_law_error", "_law_error", "_law_error", s_lw_error, []⟩,
  ⟨.g "law", "law", "law", s_lw_law, []⟩]
def exX (K : Frag) : Bool := excB K "BadChange" "value" && (excB K "BadArgument" "value" && (exmB K "BadChange" "BadChange" true && (exmB K "BadArgument" "BadChange" false && exmB K "BadArgument" "BadArgument" true)))
def bmB (K : Frag) (C : Addr) (m : Str) : Bool := eqO (specialIn K (.ref (ma K C m)) "__get__") (some (some (.builtin "function.__get__"))) && (decide (takesIn K (.ref (ma K C m)) = some false) && fnIn K (ma K C m))
def exAll (K : Frag) : Bool := shB K && (bkB K && (numB K (ga K "Share") "add" && (neB K (ga K "Book") && (exX K && (bmB K (ga K "Book") "changed" && (intB K "MOST_CHANGES" 5 && (decide (kitOne K (.type "dict") (.ref (ga K "Book")) = some false) && freeB K ["dict", "list", "tuple"])))))))
abbrev Rw : OpenRow := OpenLaw.row PySem.Challenge.rw_planswitches_k77_changes_of_a_book
abbrev hk : Hook := hookQ 6 fnAll exAll
def ob (s : SharedT) : AlP := obsQG 6 fnAll exAll (HandSHeadRun.getT s)
theorem ob_eq (s : SharedT) : ob s = hk.obs s.abs := obsQG_eq (HandSHeadRun.getT_eq s)
def loose : List PySem.Str := (["_wall", "__name__", "PlanError", "BadArgument", "BadPrice", "BadBook", "BadState", "BadChange", "BadShare", "DividedByNothing", "BadKind", "is_integer", "common", "share_of_number", "is_number", "Share", "LETTERS", "MOST_LETTERS", "MOST_KINDS", "is_word"] : List PySem.Str) ++ (["is_pair", "shares_of", "are_kinds", "as_make", "Prices", "check_prices", "FIELDS", "MOST_TRIES", "MOST_LOOK", "EVER", "is_above", "is_after", "is_setting", "as_kept", "ascending", "Book", "check_book", "MOST_CHANGES", "is_change", "changed_by"] : List PySem.Str) ++ (["_law_numbers", "_law_pool", "_law_draw", "_law_opened", "_law_after", "_law_plan", "_law_made_after", "_law_made_book", "_law_cell", "_law_change_of", "_law_made_change", "_law_with", "_law_error"] : List PySem.Str)
theorem run (w : World) : HandSHeadRun.RunEq Rw (view Rw.prog [58]) hk ob 20000 loose w := by
  intro os
  kernel_rfl
theorem facts {P : Program} {w : World} {K : Frag} {h : Heap} {mg : Str → Option Value} {f : Addr} (X : K.In h) (G : h.Ns mainGlobals mg) (hfa : mg ("law" : Str) = some (.ref f)) (c : SaysP fnAll exAll K) :
    ∃ fd : FuncData, (∀ (s : Shared) (v : Value), BindsTo s fd ⟨[v], []⟩ [("_law_script", v)]) ∧ ∀ base : Heap, K.In base → base.Ns mainGlobals mg → FnOk P w K mg base CX0 16 f fd ["_law_script"] (spLaw K) := by
  obtain ⟨f_is_integer, fd_is_integer, g_is_integer⟩ := c.glo X G 0 rfl
  obtain ⟨f_common, fd_common, g_common⟩ := c.glo X G 1 rfl
  obtain ⟨f_share_of_number, fd_share_of_number, g_share_of_number⟩ := c.glo X G 2 rfl
  obtain ⟨_, fd_3, F_3⟩ := c.def_ 3 rfl
  obtain ⟨_, fd_4, F_4⟩ := c.def_ 4 rfl
  obtain ⟨f_BadChange_dd_init, fd_BadChange_dd_init, g_BadChange_dd_init⟩ := c.meth 5 rfl
  obtain ⟨f_BadArgument_dd_init, fd_BadArgument_dd_init, g_BadArgument_dd_init⟩ := c.meth 6 rfl
  obtain ⟨f_Share_dd_add, fd_Share_dd_add, g_Share_dd_add⟩ := c.meth 7 rfl
  obtain ⟨f_Share_minus, fd_Share_minus, g_Share_minus⟩ := c.meth 8 rfl
  obtain ⟨f_Share_dd_gt, fd_Share_dd_gt, g_Share_dd_gt⟩ := c.meth 9 rfl
  obtain ⟨f_Share_dd_ge, fd_Share_dd_ge, g_Share_dd_ge⟩ := c.meth 10 rfl
  obtain ⟨f_Share_dd_eq, fd_Share_dd_eq, g_Share_dd_eq⟩ := c.meth 11 rfl
  obtain ⟨f_is_number, fd_is_number, g_is_number⟩ := c.glo X G 12 rfl
  obtain ⟨f_is_above, fd_is_above, g_is_above⟩ := c.glo X G 13 rfl
  obtain ⟨f_is_after, fd_is_after, g_is_after⟩ := c.glo X G 14 rfl
  obtain ⟨f_is_setting, fd_is_setting, g_is_setting⟩ := c.glo X G 15 rfl
  obtain ⟨f_as_kept, fd_as_kept, g_as_kept⟩ := c.glo X G 16 rfl
  obtain ⟨f_Book_changed, fd_Book_changed, g_Book_changed⟩ := c.meth 17 rfl
  obtain ⟨f_Book_dd_eq, fd_Book_dd_eq, g_Book_dd_eq⟩ := c.meth 18 rfl
  obtain ⟨f_check_book, fd_check_book, g_check_book⟩ := c.glo X G 19 rfl
  obtain ⟨f_is_change, fd_is_change, g_is_change⟩ := c.glo X G 20 rfl
  obtain ⟨f_changed_by, fd_changed_by, g_changed_by⟩ := c.glo X G 21 rfl
  obtain ⟨f_lw_numbers, fd_lw_numbers, g_lw_numbers⟩ := c.glo X G 22 rfl
  obtain ⟨f_lw_pool, fd_lw_pool, g_lw_pool⟩ := c.glo X G 23 rfl
  obtain ⟨f_lw_draw, fd_lw_draw, g_lw_draw⟩ := c.glo X G 24 rfl
  obtain ⟨f_lw_opened, fd_lw_opened, g_lw_opened⟩ := c.glo X G 25 rfl
  obtain ⟨f_lw_after, fd_lw_after, g_lw_after⟩ := c.glo X G 26 rfl
  obtain ⟨f_lw_plan, fd_lw_plan, g_lw_plan⟩ := c.glo X G 27 rfl
  obtain ⟨f_lw_made_after, fd_lw_made_after, g_lw_made_after⟩ := c.glo X G 28 rfl
  obtain ⟨f_lw_made_book, fd_lw_made_book, g_lw_made_book⟩ := c.glo X G 29 rfl
  obtain ⟨f_lw_cell, fd_lw_cell, g_lw_cell⟩ := c.glo X G 30 rfl
  obtain ⟨f_lw_change_of, fd_lw_change_of, g_lw_change_of⟩ := c.glo X G 31 rfl
  obtain ⟨f_lw_made_change, fd_lw_made_change, g_lw_made_change⟩ := c.glo X G 32 rfl
  obtain ⟨f_lw_with, fd_lw_with, g_lw_with⟩ := c.glo X G 33 rfl
  obtain ⟨f_lw_error, fd_lw_error, g_lw_error⟩ := c.glo X G 34 rfl
  obtain ⟨f_lw_law, fd_lw_law, g_lw_law⟩ := c.glo X G 35 rfl
  have e := hfa.symm.trans g_lw_law.m
  cases e
  refine ⟨fd_lw_law, fun s v => ?_, fun base hK hG => ?_⟩
  · obtain ⟨⟨oc, od, kV, doc, pm, an, cdv, ct, osl, rfl, lk, hcd⟩, kp⟩ := g_lw_law.F
    exact .of_eq rfl
  let Z : Cz := ⟨P, w, K, mg, base⟩

  obtain ⟨ce1, ce⟩ := ba c.more
  obtain ⟨ce2, ce⟩ := ba ce
  obtain ⟨cn, ce⟩ := ba ce
  obtain ⟨cs2, ce⟩ := ba ce
  obtain ⟨cx, ce⟩ := ba ce
  obtain ⟨cbm, ce⟩ := ba ce
  obtain ⟨cmc, ce⟩ := ba ce
  obtain ⟨ckd, cfr⟩ := ba ce
  obtain ⟨cx1, cx⟩ := ba cx
  obtain ⟨cx2, cx⟩ := ba cx
  obtain ⟨cx3, cx⟩ := ba cx
  obtain ⟨cx4, cx5⟩ := ba cx
  have na := numB_ok cn
  have N2 := neB_ok cs2
  have md : mg "dict" = none := freeB_ok X G cfr (by simp)
  have ml : mg "list" = none := freeB_ok X G cfr (by simp)
  have mt : mg "tuple" = none := freeB_ok X G cfr (by simp)
  obtain ⟨T, D, M⟩ := shB_ok (P := P) (w := w) (base := base) X G ce1
  obtain ⟨B, KB, J, MB, ckw⟩ := bkB_ok (P := P) (w := w) (base := base) X G ce2
  obtain ⟨c_is_integer, c_Share, c_Share1⟩ := mk_cals (Z := Z) X G T M ⟨_, _, g_is_integer⟩ ⟨_, _, g_common⟩ ⟨_, F_3⟩
  have tc := excB_ok X G cx1 g_BadChange_dd_init rfl rfl rfl
  have ta := excB_ok X G cx2 g_BadArgument_dd_init rfl rfl rfl
  have c_num := g_share_of_number.cal (Z := Z) (ok_share_of_number g_share_of_number.F T c_is_integer c_Share1) (g_share_of_number.F.binds fun _ _ _ _ _ _ us hl => match us, hl with | [_], _ => rfl)
  have c_isnum := g_is_number.cal (Z := Z) (ok_is_number g_is_number.F T c_is_integer) (g_is_number.F.binds fun _ _ _ _ _ _ us hl => match us, hl with | [_], _ => rfl)
  have c_add := g_Share_dd_add.calS (Z := Z) (ok_add g_Share_dd_add.F T c_num c_Share) (g_Share_dd_add.F.binds fun _ _ _ _ _ _ us hl => match us, hl with | [_, _], _ => rfl)
  have c_minus := g_Share_minus.calM (Z := Z) T.cl (ok_minus g_Share_minus.F T c_num) (g_Share_minus.F.binds fun _ _ _ _ _ _ us hl => match us, hl with | [_, _], _ => rfl)
  have c_gt := g_Share_dd_gt.calS (Z := Z) (ok_gt g_Share_dd_gt.F c_minus) (g_Share_dd_gt.F.binds fun _ _ _ _ _ _ us hl => match us, hl with | [_, _], _ => rfl)
  have c_ge := g_Share_dd_ge.calS (Z := Z) (ok_ge g_Share_dd_ge.F c_minus) (g_Share_dd_ge.F.binds fun _ _ _ _ _ _ us hl => match us, hl with | [_, _], _ => rfl)
  have c_eq := g_Share_dd_eq.calS (Z := Z) (ok_eq g_Share_dd_eq.F c_minus c_isnum) (g_Share_dd_eq.F.binds fun _ _ _ _ _ _ us hl => match us, hl with | [_, _], _ => rfl)
  have MM : ShM Z (ga K "Share") := ⟨c_gt, c_ge, c_eq, c_add, na, c_Share, c_Share1, c_isnum, c_is_integer⟩
  have c_above := g_is_above.cal (Z := Z) (ok_is_above g_is_above.F T MM) (g_is_above.F.binds fun _ _ _ _ _ _ us hl => match us, hl with | [_], _ => rfl)
  have c_after := g_is_after.cal (Z := Z) (ok_is_after g_is_after.F T B MM c_above) (g_is_after.F.binds fun _ _ _ _ _ _ us hl => match us, hl with | [_], _ => rfl)
  have c_setting := g_is_setting.cal (Z := Z) (ok_is_setting g_is_setting.F T B MM c_above c_after) (g_is_setting.F.binds fun _ _ _ _ _ _ us hl => match us, hl with | [_, _], _ => rfl)
  have c_kept := g_as_kept.cal (Z := Z) (ok_as_kept g_as_kept.F T MM) (g_as_kept.F.binds fun _ _ _ _ _ _ us hl => match us, hl with | [_, _], _ => rfl)
  have F4 := FunD.withKw (kws := bkKws) F_4 ckw
  have k4 := ok_Book (Z := Z) (C := ga K "Share") (CB := ga K "Book") F4 B KB c_setting c_kept
  obtain ⟨c_book, c_bookK⟩ := book_cals (Z := Z) F4 MB KB k4
  have c_bkeq := g_Book_dd_eq.calS (Z := Z) (ok_BkEq (C := ga K "Share") g_Book_dd_eq.F KB J MM) (g_Book_dd_eq.F.binds fun _ _ _ _ _ _ us hl => match us, hl with | [_, _], _ => rfl)
  have mc : Meth K (ga K "Book") "changed" f_Book_changed := ⟨g_Book_changed.o.fn, g_Book_changed.o.isf, g_Book_changed.F.kp⟩
  have hma : ma K (ga K "Book") "changed" = f_Book_changed := by
    unfold ma
    rw [g_Book_changed.o.fn]
  have bm : BMeth K (ga K "Book") "changed" f_Book_changed := by
    unfold bmB at cbm
    rw [hma] at cbm
    obtain ⟨b1, b⟩ := ba cbm
    obtain ⟨b2, b3⟩ := ba b
    exact ⟨mc, eqO_ok b1, of_decide_eq_true b2, by decide +kernel, b3⟩
  have c_changed : CalKD Z CX0 13 (ga K "Book") "changed" GdF (fun ks => spKG (ga K "Share") (ga K "Book") ks) := ⟨_, fun ks hg => changed_any (Z := Z) g_Book_changed.F B KB c_bookK ks hg, bm, KB.cl⟩
  have c_check := g_check_book.cal (Z := Z) (ok_check_book (C := ga K "Share") g_check_book.F KB J ta) (g_check_book.F.binds fun _ _ _ _ _ _ us hl => match us, hl with | [_], _ => rfl)
  have c_ischg := g_is_change.cal (Z := Z) (ok_is_change g_is_change.F J B c_setting) (g_is_change.F.binds fun _ _ _ _ _ _ us hl => match us, hl with | [_], _ => rfl)
  have k_by := ok_changed_by (Z := Z) g_changed_by.F J B ml (intB_ok X G cmc) tc c_check c_ischg c_changed
  have c_by := g_changed_by.cal (Z := Z) k_by (g_changed_by.F.binds fun _ _ _ _ _ _ us hl => match us, hl with | [_, _], _ => rfl)
  have c_by0 := g_changed_by.cal (Z := Z) (okCalm k_by (sp' := spBy0 K (ga K "Share") (ga K "Book") (ga K "BadArgument") (ga K "BadChange")) fun vs H Q E h => h) (g_changed_by.F.binds fun _ _ _ _ _ _ us hl => match us, hl with | [_, _], _ => rfl)
  have c_numbers := g_lw_numbers.cal (Z := Z) (ok_numbers g_lw_numbers.F D) (g_lw_numbers.F.binds fun _ _ _ _ _ _ us hl => match us, hl with | [_, _, _], _ => rfl)
  have c_pool := g_lw_pool.cal (Z := Z) (ok_pool g_lw_pool.F D c_numbers) (g_lw_pool.F.binds fun _ _ _ _ _ _ us hl => match us, hl with | [_, _, _], _ => rfl)
  have c_draw := g_lw_draw.cal (Z := Z) (ok_draw g_lw_draw.F D) (g_lw_draw.F.binds fun _ _ _ _ _ _ us hl => match us, hl with | [_, _], _ => rfl)
  have c_opened := g_lw_opened.cal (Z := Z) (ok_opened g_lw_opened.F D c_pool) (g_lw_opened.F.binds fun _ _ _ _ _ _ us hl => match us, hl with | [_, _, _], _ => rfl)
  have c_lafter := g_lw_after.cal (Z := Z) (ok_lafter g_lw_after.F c_draw) (g_lw_after.F.binds fun _ _ _ _ _ _ us hl => match us, hl with | [_], _ => rfl)
  have c_lplan := g_lw_plan.cal (Z := Z) (ok_lplan g_lw_plan.F c_draw c_lafter) (g_lw_plan.F.binds fun _ _ _ _ _ _ us hl => match us, hl with | [_, _], _ => rfl)
  have c_mafter := g_lw_made_after.cal (Z := Z) (ok_mafter g_lw_made_after.F MM) (g_lw_made_after.F.binds fun _ _ _ _ _ _ us hl => match us, hl with | [_], _ => rfl)
  have c_mbook := g_lw_made_book.cal (Z := Z) (ok_mbook g_lw_made_book.F MM c_bookK c_mafter) (g_lw_made_book.F.binds fun _ _ _ _ _ _ us hl => match us, hl with | [_], _ => rfl)
  have c_cell := g_lw_cell.cal (Z := Z) (ok_cell g_lw_cell.F D) (g_lw_cell.F.binds fun _ _ _ _ _ _ us hl => match us, hl with | [_, _], _ => rfl)
  have c_chgof := g_lw_change_of.cal (Z := Z) (ok_change_of g_lw_change_of.F c_draw c_lplan) (g_lw_change_of.F.binds fun _ _ _ _ _ _ us hl => match us, hl with | [_], _ => rfl)
  have c_mchg := g_lw_made_change.cal (Z := Z) (ok_made_change g_lw_made_change.F MM c_mafter) (g_lw_made_change.F.binds fun _ _ _ _ _ _ us hl => match us, hl with | [_], _ => rfl)
  have c_with := g_lw_with.cal (Z := Z) (ok_with g_lw_with.F md) (g_lw_with.F.binds fun _ _ _ _ _ _ us hl => match us, hl with | [_, _], _ => rfl)
  have c_err := g_lw_error.cal (Z := Z) (ok_error g_lw_error.F tc ta (of_decide_eq_true cx3) (of_decide_eq_true cx4) (of_decide_eq_true cx5) c_by) (g_lw_error.F.binds fun _ _ _ _ _ _ us hl => match us, hl with | [_, _], _ => rfl)
  exact ok_law g_lw_law.F D T KB J c_bkeq N2 ml mt (of_decide_eq_true ckd) c_opened c_draw c_lplan c_pool c_cell c_mbook c_chgof c_mchg c_with c_err c_by0
end Ps
open PySem PySem.W PySem.Calls PyProof.Rows
theorem PySem.Challenge.cw_planswitches_k77_changes_of_a_book_holds : PySem.Challenge.rw_planswitches_k77_changes_of_a_book.Holds := by
  w_on; o_law
  refine HandSHeadRun.head_any (r := OpenLaw.row PySem.Challenge.rw_planswitches_k77_changes_of_a_book) (q := view (OpenLaw.row PySem.Challenge.rw_planswitches_k77_changes_of_a_book).prog [58]) (H := Ps.hk) (ob := Ps.ob) (M := 20000) (loose := Ps.loose) (d := HandSHeadRun.topDef (OpenLaw.row PySem.Challenge.rw_planswitches_k77_changes_of_a_book).prog 58) (kwd := []) Ps.ob_eq
    (by kernel_rfl) (fun s => by kernel_rfl) Ps.run (by kernel_rfl) (by kernel_rfl) (by kernel_rfl) (by rfl) (by first | assumption | decide +kernel) (by decide +kernel) ⟨rfl, rfl, rfl, rfl, rfl, by decide +kernel⟩ ?hw ?hc
  case hw => w_witness2
  case hc =>
    refine L2.walk_ofE (l := PySem.Challenge.rw_planswitches_k77_changes_of_a_book) (n := 63) (k := 16) (x := "_law_script") (CX := L2.CX0) rfl (by decide) (by kernel_rfl) ⟨rfl, by decide, by decide⟩ ?F (fun _ _ _ _ z => z)
    intro w mg fa h Y G hmg0
    obtain ⟨K, KX, c⟩ := Y
    have hmg : mg ("law" : PySem.Str) = some (.ref fa) := by
      have e : (HandSHeadRun.topDef (OpenLaw.row PySem.Challenge.rw_planswitches_k77_changes_of_a_book).prog 58).name = ("law" : PySem.Str) := by kernel_rfl
      rw [← e]
      exact hmg0
    obtain ⟨fd, hb, hF⟩ := Ps.facts (P := (PySem.Challenge.rw_planswitches_k77_changes_of_a_book).prog) (w := w) KX G hmg c
    exact ⟨K, fd, Ps.spLaw K, KX, hb, fun H a ns hl _ hS => ⟨a, ns, rfl, hS, hl, fun _ => rfl⟩, hF⟩



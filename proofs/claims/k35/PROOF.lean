import PyProof.Rows.All
import Wide.All
import OpenK.AllK
import Wide.FinOn
import HandS.ForMost
import HandS.GenCall
import HandS.IsInst
import HandS.Property
import HandS.Wide
import HandS.EndBits
import HandS.OwnEq
import HandS.Defaults
import KE.KStateDown
import HandS.Head0
import HandS.Head1
import HandS.Head2
import HandS.HeadEnd
import HandS.HeadHook1
import HandS.HeadHook2
import HandS.Star
import HandS.ClsMeth
import HandS.More
import HandS.MakeKw
import HandS.MakeKwOnly
import HandS.Exc
import HandS.ExcOwn
import HandS.ExcSuper
import HandS.ExcField
import HandS.TryOnly
import HandS.TryMany
import HandS.WordsExc
import HandS.ExcCtx
import HandS.HotCalls
import HandS.CallSlots
import KE.SortKeyHeap
import KE.KDictSum
import HandS.Lambda
import HandS.SortKw
import HandS.RaiseMore
import KE.KNestM
import HandS.Codes
import HandS.Walk
import HandS.DictComp
import KE.KOpsOwn
import PyProof.RulesMatch
import KE.GoesSet
import KE.GoesMore
import HandS.Strs
import HandS.Text
import KE.KEqDict
import HandS.Sort
import PyProof.DictUpdate
import PyProof.DictDisplay
import PyProof.DictTable
import HandS.Style
import HandS.TupAny
import PyProof.ReprBulk
import KE.KDictKeyed
import KE.KeyNested
import HandS.WideBits
import HandS.CallLocal
import KE.KCallOwn
import HandS.NoneIn
import HandS.GenList
import PySem.Challenge.RW_planswitches_k35_floors_and_worst_kinds
set_option Elab.async false
set_option linter.all false
set_option maxRecDepth 100000
/-! places and scopes of the defs of planswitches_k35_floors_and_worst_kinds -/
namespace Ps
open PySem L2
def topS (i : Nat) : Stmt := PySem.Challenge.pw_planswitches_k35_floors_and_worst_kinds.main.body.getD i (.Pass ⟨0, 0, 0, 0⟩)
abbrev s_BadArgument_dd_init : Stmt := inClass (topS 3) 0
theorem sc_BadArgument_dd_init : FnScope ["self", "value"] ["self", "value"] (defScope s_BadArgument_dd_init) := ⟨rfl, rfl, rfl, by decide +kernel, rfl, by decide +kernel, by decide +kernel⟩
abbrev s_BadPrice_dd_init : Stmt := inClass (topS 4) 0
theorem sc_BadPrice_dd_init : FnScope ["self", "value"] ["self", "value"] (defScope s_BadPrice_dd_init) := ⟨rfl, rfl, rfl, by decide +kernel, rfl, by decide +kernel, by decide +kernel⟩
abbrev s_BadBook_dd_init : Stmt := inClass (topS 5) 0
theorem sc_BadBook_dd_init : FnScope ["self", "field"] ["self", "field"] (defScope s_BadBook_dd_init) := ⟨rfl, rfl, rfl, by decide +kernel, rfl, by decide +kernel, by decide +kernel⟩
abbrev s_BadState_dd_init : Stmt := inClass (topS 6) 0
theorem sc_BadState_dd_init : FnScope ["self", "value"] ["self", "value"] (defScope s_BadState_dd_init) := ⟨rfl, rfl, rfl, by decide +kernel, rfl, by decide +kernel, by decide +kernel⟩
abbrev s_BadRow_dd_init : Stmt := inClass (topS 7) 0
theorem sc_BadRow_dd_init : FnScope ["self", "value"] ["self", "value"] (defScope s_BadRow_dd_init) := ⟨rfl, rfl, rfl, by decide +kernel, rfl, by decide +kernel, by decide +kernel⟩
abbrev s_BadShare_dd_init : Stmt := inClass (topS 8) 0
theorem sc_BadShare_dd_init : FnScope ["self", "value"] ["self", "value"] (defScope s_BadShare_dd_init) := ⟨rfl, rfl, rfl, by decide +kernel, rfl, by decide +kernel, by decide +kernel⟩
abbrev s_DividedByNothing_dd_init : Stmt := inClass (topS 9) 0
theorem sc_DividedByNothing_dd_init : FnScope ["self", "value"] ["self", "value"] (defScope s_DividedByNothing_dd_init) := ⟨rfl, rfl, rfl, by decide +kernel, rfl, by decide +kernel, by decide +kernel⟩
abbrev s_BadKind_dd_init : Stmt := inClass (topS 10) 0
theorem sc_BadKind_dd_init : FnScope ["self", "word"] ["self", "word"] (defScope s_BadKind_dd_init) := ⟨rfl, rfl, rfl, by decide +kernel, rfl, by decide +kernel, by decide +kernel⟩
abbrev s_is_integer : Stmt := topS 12
theorem sc_is_integer : FnScope ["value"] ["value"] (defScope s_is_integer) := ⟨rfl, rfl, rfl, by decide +kernel, rfl, by decide +kernel, by decide +kernel⟩
abbrev s_common : Stmt := topS 13
theorem sc_common : FnScope ["one", "other"] ["one", "other"] (defScope s_common) := ⟨rfl, rfl, rfl, by decide +kernel, rfl, by decide +kernel, by decide +kernel⟩
abbrev s_share_of_number : Stmt := topS 14
theorem sc_share_of_number : FnScope ["value"] ["value"] (defScope s_share_of_number) := ⟨rfl, rfl, rfl, by decide +kernel, rfl, by decide +kernel, by decide +kernel⟩
abbrev s_is_number : Stmt := topS 15
theorem sc_is_number : FnScope ["value"] ["value"] (defScope s_is_number) := ⟨rfl, rfl, rfl, by decide +kernel, rfl, by decide +kernel, by decide +kernel⟩
abbrev s_Share_dd_init : Stmt := inClass (topS 16) 0
theorem sc_Share_dd_init : FnScope ["self", "top", "under", "divisor"] ["self", "top", "under"] (defScope s_Share_dd_init) := ⟨rfl, rfl, rfl, by decide +kernel, rfl, by decide +kernel, by decide +kernel⟩
abbrev s_Share_top : Stmt := inClass (topS 16) 1
theorem sc_Share_top : FnScope ["self"] ["self"] (defScope s_Share_top) := ⟨rfl, rfl, rfl, by decide +kernel, rfl, by decide +kernel, by decide +kernel⟩
abbrev s_Share_under : Stmt := inClass (topS 16) 2
theorem sc_Share_under : FnScope ["self"] ["self"] (defScope s_Share_under) := ⟨rfl, rfl, rfl, by decide +kernel, rfl, by decide +kernel, by decide +kernel⟩
abbrev s_Share_dd_add : Stmt := inClass (topS 16) 3
theorem sc_Share_dd_add : FnScope ["self", "other"] ["self", "other"] (defScope s_Share_dd_add) := ⟨rfl, rfl, rfl, by decide +kernel, rfl, by decide +kernel, by decide +kernel⟩
abbrev s_Share_dd_radd : Stmt := inClass (topS 16) 4
theorem sc_Share_dd_radd : FnScope ["self", "other"] ["self", "other"] (defScope s_Share_dd_radd) := ⟨rfl, rfl, rfl, by decide +kernel, rfl, by decide +kernel, by decide +kernel⟩
abbrev s_Share_dd_sub : Stmt := inClass (topS 16) 5
theorem sc_Share_dd_sub : FnScope ["self", "other"] ["self", "other"] (defScope s_Share_dd_sub) := ⟨rfl, rfl, rfl, by decide +kernel, rfl, by decide +kernel, by decide +kernel⟩
abbrev s_Share_dd_rsub : Stmt := inClass (topS 16) 6
theorem sc_Share_dd_rsub : FnScope ["self", "other"] ["self", "other"] (defScope s_Share_dd_rsub) := ⟨rfl, rfl, rfl, by decide +kernel, rfl, by decide +kernel, by decide +kernel⟩
abbrev s_Share_dd_mul : Stmt := inClass (topS 16) 7
theorem sc_Share_dd_mul : FnScope ["self", "other"] ["self", "other"] (defScope s_Share_dd_mul) := ⟨rfl, rfl, rfl, by decide +kernel, rfl, by decide +kernel, by decide +kernel⟩
abbrev s_Share_dd_rmul : Stmt := inClass (topS 16) 8
theorem sc_Share_dd_rmul : FnScope ["self", "other"] ["self", "other"] (defScope s_Share_dd_rmul) := ⟨rfl, rfl, rfl, by decide +kernel, rfl, by decide +kernel, by decide +kernel⟩
abbrev s_Share_by : Stmt := inClass (topS 16) 9
theorem sc_Share_by : FnScope ["self", "other"] ["self", "other"] (defScope s_Share_by) := ⟨rfl, rfl, rfl, by decide +kernel, rfl, by decide +kernel, by decide +kernel⟩
abbrev s_Share_dd_neg : Stmt := inClass (topS 16) 10
theorem sc_Share_dd_neg : FnScope ["self"] ["self"] (defScope s_Share_dd_neg) := ⟨rfl, rfl, rfl, by decide +kernel, rfl, by decide +kernel, by decide +kernel⟩
abbrev s_Share_dd_abs : Stmt := inClass (topS 16) 11
theorem sc_Share_dd_abs : FnScope ["self"] ["self"] (defScope s_Share_dd_abs) := ⟨rfl, rfl, rfl, by decide +kernel, rfl, by decide +kernel, by decide +kernel⟩
abbrev s_Share_dd_bool : Stmt := inClass (topS 16) 12
theorem sc_Share_dd_bool : FnScope ["self"] ["self"] (defScope s_Share_dd_bool) := ⟨rfl, rfl, rfl, by decide +kernel, rfl, by decide +kernel, by decide +kernel⟩
abbrev s_Share_minus : Stmt := inClass (topS 16) 13
theorem sc_Share_minus : FnScope ["self", "other"] ["self", "other"] (defScope s_Share_minus) := ⟨rfl, rfl, rfl, by decide +kernel, rfl, by decide +kernel, by decide +kernel⟩
abbrev s_Share_dd_lt : Stmt := inClass (topS 16) 14
theorem sc_Share_dd_lt : FnScope ["self", "other"] ["self", "other"] (defScope s_Share_dd_lt) := ⟨rfl, rfl, rfl, by decide +kernel, rfl, by decide +kernel, by decide +kernel⟩
abbrev s_Share_dd_le : Stmt := inClass (topS 16) 15
theorem sc_Share_dd_le : FnScope ["self", "other"] ["self", "other"] (defScope s_Share_dd_le) := ⟨rfl, rfl, rfl, by decide +kernel, rfl, by decide +kernel, by decide +kernel⟩
abbrev s_Share_dd_gt : Stmt := inClass (topS 16) 16
theorem sc_Share_dd_gt : FnScope ["self", "other"] ["self", "other"] (defScope s_Share_dd_gt) := ⟨rfl, rfl, rfl, by decide +kernel, rfl, by decide +kernel, by decide +kernel⟩
abbrev s_Share_dd_ge : Stmt := inClass (topS 16) 17
theorem sc_Share_dd_ge : FnScope ["self", "other"] ["self", "other"] (defScope s_Share_dd_ge) := ⟨rfl, rfl, rfl, by decide +kernel, rfl, by decide +kernel, by decide +kernel⟩
abbrev s_Share_dd_eq : Stmt := inClass (topS 16) 18
theorem sc_Share_dd_eq : FnScope ["self", "other"] ["self", "other"] (defScope s_Share_dd_eq) := ⟨rfl, rfl, rfl, by decide +kernel, rfl, by decide +kernel, by decide +kernel⟩
abbrev s_Share_dd_str : Stmt := inClass (topS 16) 19
theorem sc_Share_dd_str : FnScope ["self"] ["self"] (defScope s_Share_dd_str) := ⟨rfl, rfl, rfl, by decide +kernel, rfl, by decide +kernel, by decide +kernel⟩
abbrev s_Share_dd_repr : Stmt := inClass (topS 16) 20
theorem sc_Share_dd_repr : FnScope ["self"] ["self"] (defScope s_Share_dd_repr) := ⟨rfl, rfl, rfl, by decide +kernel, rfl, by decide +kernel, by decide +kernel⟩
abbrev s_Share_floor : Stmt := inClass (topS 16) 21
theorem sc_Share_floor : FnScope ["self"] ["self"] (defScope s_Share_floor) := ⟨rfl, rfl, rfl, by decide +kernel, rfl, by decide +kernel, by decide +kernel⟩
abbrev s_Share_added : Stmt := inClass (topS 16) 22
theorem sc_Share_added : FnScope ["numbers", "found", "number"] ["numbers"] (defScope s_Share_added) := ⟨rfl, rfl, rfl, by decide +kernel, rfl, by decide +kernel, by decide +kernel⟩
abbrev s_is_word : Stmt := topS 21
theorem sc_is_word : FnScope ["value", "sign"] ["value"] (defScope s_is_word) := ⟨rfl, rfl, rfl, by decide +kernel, rfl, by decide +kernel, by decide +kernel⟩
abbrev s_is_pair : Stmt := topS 22
theorem sc_is_pair : FnScope ["value", "number"] ["value"] (defScope s_is_pair) := ⟨rfl, rfl, rfl, by decide +kernel, rfl, by decide +kernel, by decide +kernel⟩
abbrev s_shares_of : Stmt := topS 23
theorem sc_shares_of : FnScope ["pair"] ["pair"] (defScope s_shares_of) := ⟨rfl, rfl, rfl, by decide +kernel, rfl, by decide +kernel, by decide +kernel⟩
abbrev s_are_kinds : Stmt := topS 24
theorem sc_are_kinds : FnScope ["value", "word"] ["value"] (defScope s_are_kinds) := ⟨rfl, rfl, rfl, by decide +kernel, rfl, by decide +kernel, by decide +kernel⟩
abbrev s_as_make : Stmt := topS 25
theorem sc_as_make : FnScope ["value"] ["value"] (defScope s_as_make) := ⟨rfl, rfl, rfl, by decide +kernel, rfl, by decide +kernel, by decide +kernel⟩
abbrev s_Prices_dd_init : Stmt := inClass (topS 26) 0
theorem sc_Prices_dd_init : FnScope ["self", "make", "general_make", "kinds", "word"] ["self", "make", "general_make", "kinds"] (defScope s_Prices_dd_init) := ⟨rfl, rfl, rfl, by decide +kernel, rfl, by decide +kernel, by decide +kernel⟩
abbrev s_Prices_make : Stmt := inClass (topS 26) 1
theorem sc_Prices_make : FnScope ["self"] ["self"] (defScope s_Prices_make) := ⟨rfl, rfl, rfl, by decide +kernel, rfl, by decide +kernel, by decide +kernel⟩
abbrev s_Prices_make_set : Stmt := inClass (topS 26) 2
theorem sc_Prices_make_set : FnScope ["self", "value"] ["self", "value"] (defScope s_Prices_make_set) := ⟨rfl, rfl, rfl, by decide +kernel, rfl, by decide +kernel, by decide +kernel⟩
abbrev s_Prices_general_make : Stmt := inClass (topS 26) 3
theorem sc_Prices_general_make : FnScope ["self"] ["self"] (defScope s_Prices_general_make) := ⟨rfl, rfl, rfl, by decide +kernel, rfl, by decide +kernel, by decide +kernel⟩
abbrev s_Prices_general_make_set : Stmt := inClass (topS 26) 4
theorem sc_Prices_general_make_set : FnScope ["self", "value"] ["self", "value"] (defScope s_Prices_general_make_set) := ⟨rfl, rfl, rfl, by decide +kernel, rfl, by decide +kernel, by decide +kernel⟩
abbrev s_Prices_dd_getitem : Stmt := inClass (topS 26) 6
theorem sc_Prices_dd_getitem : FnScope ["self", "word"] ["self", "word"] (defScope s_Prices_dd_getitem) := ⟨rfl, rfl, rfl, by decide +kernel, rfl, by decide +kernel, by decide +kernel⟩
abbrev s_Prices_dd_setitem : Stmt := inClass (topS 26) 7
theorem sc_Prices_dd_setitem : FnScope ["self", "word", "pair", "pairs", "other"] ["self", "word", "pair"] (defScope s_Prices_dd_setitem) := ⟨rfl, rfl, rfl, by decide +kernel, rfl, by decide +kernel, by decide +kernel⟩
abbrev s_Prices_dd_contains : Stmt := inClass (topS 26) 8
theorem sc_Prices_dd_contains : FnScope ["self", "word"] ["self", "word"] (defScope s_Prices_dd_contains) := ⟨rfl, rfl, rfl, by decide +kernel, rfl, by decide +kernel, by decide +kernel⟩
abbrev s_Prices_dd_iter : Stmt := inClass (topS 26) 9
theorem sc_Prices_dd_iter : FnScope ["self"] ["self"] (defScope s_Prices_dd_iter) := ⟨rfl, rfl, rfl, by decide +kernel, rfl, by decide +kernel, by decide +kernel⟩
abbrev s_Prices_dd_len : Stmt := inClass (topS 26) 10
theorem sc_Prices_dd_len : FnScope ["self"] ["self"] (defScope s_Prices_dd_len) := ⟨rfl, rfl, rfl, by decide +kernel, rfl, by decide +kernel, by decide +kernel⟩
abbrev s_Prices_words : Stmt := inClass (topS 26) 11
theorem sc_Prices_words : FnScope ["self"] ["self"] (defScope s_Prices_words) := ⟨rfl, rfl, rfl, by decide +kernel, rfl, by decide +kernel, by decide +kernel⟩
abbrev s_Prices_own : Stmt := inClass (topS 26) 12
theorem sc_Prices_own : FnScope ["self", "word"] ["self", "word"] (defScope s_Prices_own) := ⟨rfl, rfl, rfl, by decide +kernel, rfl, by decide +kernel, by decide +kernel⟩
abbrev s_Prices_general : Stmt := inClass (topS 26) 13
theorem sc_Prices_general : FnScope ["self", "word"] ["self", "word"] (defScope s_Prices_general) := ⟨rfl, rfl, rfl, by decide +kernel, rfl, by decide +kernel, by decide +kernel⟩
abbrev s_Prices_best : Stmt := inClass (topS 26) 14
theorem sc_Prices_best : FnScope ["self", "word", "own", "general"] ["self", "word"] (defScope s_Prices_best) := ⟨rfl, rfl, rfl, by decide +kernel, rfl, by decide +kernel, by decide +kernel⟩
abbrev s_Prices_copied : Stmt := inClass (topS 26) 16
theorem sc_Prices_copied : FnScope ["self"] ["self"] (defScope s_Prices_copied) := ⟨rfl, rfl, rfl, by decide +kernel, rfl, by decide +kernel, by decide +kernel⟩
abbrev s_Prices_dd_eq : Stmt := inClass (topS 26) 17
theorem sc_Prices_dd_eq : FnScope ["self", "other"] ["self", "other"] (defScope s_Prices_dd_eq) := ⟨rfl, rfl, rfl, by decide +kernel, rfl, by decide +kernel, by decide +kernel⟩
abbrev s_check_prices : Stmt := topS 27
theorem sc_check_prices : FnScope ["prices"] ["prices"] (defScope s_check_prices) := ⟨rfl, rfl, rfl, by decide +kernel, rfl, by decide +kernel, by decide +kernel⟩
abbrev s_is_above : Stmt := topS 33
theorem sc_is_above : FnScope ["value"] ["value"] (defScope s_is_above) := ⟨rfl, rfl, rfl, by decide +kernel, rfl, by decide +kernel, by decide +kernel⟩
abbrev s_is_after : Stmt := topS 34
theorem sc_is_after : FnScope ["value"] ["value"] (defScope s_is_after) := ⟨rfl, rfl, rfl, by decide +kernel, rfl, by decide +kernel, by decide +kernel⟩
abbrev s_is_setting : Stmt := topS 35
theorem sc_is_setting : FnScope ["field", "value"] ["field", "value"] (defScope s_is_setting) := ⟨rfl, rfl, rfl, by decide +kernel, rfl, by decide +kernel, by decide +kernel⟩
abbrev s_as_kept : Stmt := topS 36
theorem sc_as_kept : FnScope ["field", "value"] ["field", "value"] (defScope s_as_kept) := ⟨rfl, rfl, rfl, by decide +kernel, rfl, by decide +kernel, by decide +kernel⟩
abbrev s_ascending : Stmt := topS 37
theorem sc_ascending : FnScope ["words"] ["words"] (defScope s_ascending) := ⟨rfl, rfl, rfl, by decide +kernel, rfl, by decide +kernel, by decide +kernel⟩
abbrev s_Book_dd_init : Stmt := inClass (topS 38) 0
theorem sc_Book_dd_init : FnScope ["self", "tries", "told", "factor", "equal", "sliding", "after", "keep", "given", "field"] ["self", "tries", "told", "factor", "equal", "sliding", "after", "keep"] (defScope s_Book_dd_init) := ⟨rfl, rfl, rfl, by decide +kernel, rfl, by decide +kernel, by decide +kernel⟩
abbrev s_Book_tries : Stmt := inClass (topS 38) 1
theorem sc_Book_tries : FnScope ["self"] ["self"] (defScope s_Book_tries) := ⟨rfl, rfl, rfl, by decide +kernel, rfl, by decide +kernel, by decide +kernel⟩
abbrev s_Book_told : Stmt := inClass (topS 38) 2
theorem sc_Book_told : FnScope ["self"] ["self"] (defScope s_Book_told) := ⟨rfl, rfl, rfl, by decide +kernel, rfl, by decide +kernel, by decide +kernel⟩
abbrev s_Book_factor : Stmt := inClass (topS 38) 3
theorem sc_Book_factor : FnScope ["self"] ["self"] (defScope s_Book_factor) := ⟨rfl, rfl, rfl, by decide +kernel, rfl, by decide +kernel, by decide +kernel⟩
abbrev s_Book_equal : Stmt := inClass (topS 38) 4
theorem sc_Book_equal : FnScope ["self"] ["self"] (defScope s_Book_equal) := ⟨rfl, rfl, rfl, by decide +kernel, rfl, by decide +kernel, by decide +kernel⟩
abbrev s_Book_sliding : Stmt := inClass (topS 38) 5
theorem sc_Book_sliding : FnScope ["self"] ["self"] (defScope s_Book_sliding) := ⟨rfl, rfl, rfl, by decide +kernel, rfl, by decide +kernel, by decide +kernel⟩
abbrev s_Book_after : Stmt := inClass (topS 38) 6
theorem sc_Book_after : FnScope ["self"] ["self"] (defScope s_Book_after) := ⟨rfl, rfl, rfl, by decide +kernel, rfl, by decide +kernel, by decide +kernel⟩
abbrev s_Book_keep : Stmt := inClass (topS 38) 7
theorem sc_Book_keep : FnScope ["self"] ["self"] (defScope s_Book_keep) := ⟨rfl, rfl, rfl, by decide +kernel, rfl, by decide +kernel, by decide +kernel⟩
abbrev s_Book_dd_eq : Stmt := inClass (topS 38) 9
theorem sc_Book_dd_eq : FnScope ["self", "other"] ["self", "other"] (defScope s_Book_dd_eq) := ⟨rfl, rfl, rfl, by decide +kernel, rfl, by decide +kernel, by decide +kernel⟩
abbrev s_Book_own_plans : Stmt := inClass (topS 38) 10
theorem sc_Book_own_plans : FnScope [] [] (defScope s_Book_own_plans) := ⟨rfl, rfl, rfl, by decide +kernel, rfl, by decide +kernel, by decide +kernel⟩
abbrev s_Book_looks : Stmt := inClass (topS 38) 13
theorem sc_Book_looks : FnScope ["self"] ["self"] (defScope s_Book_looks) := ⟨rfl, rfl, rfl, by decide +kernel, rfl, by decide +kernel, by decide +kernel⟩
abbrev s_Book_general_state : Stmt := inClass (topS 38) 14
theorem sc_Book_general_state : FnScope ["self", "kept"] ["self", "kept"] (defScope s_Book_general_state) := ⟨rfl, rfl, rfl, by decide +kernel, rfl, by decide +kernel, by decide +kernel⟩
abbrev s_Book_begun : Stmt := inClass (topS 38) 15
theorem sc_Book_begun : FnScope ["self", "kept"] ["self", "kept"] (defScope s_Book_begun) := ⟨rfl, rfl, rfl, by decide +kernel, rfl, by decide +kernel, by decide +kernel⟩
abbrev s_Book_start : Stmt := inClass (topS 38) 16
theorem sc_Book_start : FnScope ["self"] ["self"] (defScope s_Book_start) := ⟨rfl, rfl, rfl, by decide +kernel, rfl, by decide +kernel, by decide +kernel⟩
abbrev s_Book_ended : Stmt := inClass (topS 38) 17
theorem sc_Book_ended : FnScope ["self", "kept"] ["self", "kept"] (defScope s_Book_ended) := ⟨rfl, rfl, rfl, by decide +kernel, rfl, by decide +kernel, by decide +kernel⟩
abbrev s_Book_is_memory : Stmt := inClass (topS 38) 18
theorem sc_Book_is_memory : FnScope ["self", "prices", "memory", "word"] ["self", "prices", "memory"] (defScope s_Book_is_memory) := ⟨rfl, rfl, rfl, by decide +kernel, rfl, by decide +kernel, by decide +kernel⟩
abbrev s_Book_is_state : Stmt := inClass (topS 38) 19
theorem sc_Book_is_state : FnScope ["self", "prices", "value", "mode", "kept", "memory"] ["self", "prices", "value"] (defScope s_Book_is_state) := ⟨rfl, rfl, rfl, by decide +kernel, rfl, by decide +kernel, by decide +kernel⟩
abbrev s_Book_check_state : Stmt := inClass (topS 38) 20
theorem sc_Book_check_state : FnScope ["self", "prices", "state"] ["self", "prices", "state"] (defScope s_Book_check_state) := ⟨rfl, rfl, rfl, by decide +kernel, rfl, by decide +kernel, by decide +kernel⟩
abbrev s_Book_plan_of : Stmt := inClass (topS 38) 21
theorem sc_Book_plan_of : FnScope ["self", "state"] ["self", "state"] (defScope s_Book_plan_of) := ⟨rfl, rfl, rfl, by decide +kernel, rfl, by decide +kernel, by decide +kernel⟩
abbrev s_Book_plan : Stmt := inClass (topS 38) 22
theorem sc_Book_plan : FnScope ["self", "prices", "state"] ["self", "prices", "state"] (defScope s_Book_plan) := ⟨rfl, rfl, rfl, by decide +kernel, rfl, by decide +kernel, by decide +kernel⟩
abbrev s_Book_is_switched : Stmt := inClass (topS 38) 23
theorem sc_Book_is_switched : FnScope ["self", "prices", "memory", "runs", "word", "value"] ["self", "prices", "memory"] (defScope s_Book_is_switched) := ⟨rfl, rfl, rfl, by decide +kernel, rfl, by decide +kernel, by decide +kernel⟩
abbrev s_Book_behind_try : Stmt := inClass (topS 38) 24
theorem sc_Book_behind_try : FnScope ["self", "prices", "state", "kind", "mode", "kept", "memory"] ["self", "prices", "state", "kind"] (defScope s_Book_behind_try) := ⟨rfl, rfl, rfl, by decide +kernel, rfl, by decide +kernel, by decide +kernel⟩
abbrev s_Book_behind_look : Stmt := inClass (topS 38) 25
theorem sc_Book_behind_look : FnScope ["self", "prices", "state", "kind"] ["self", "prices", "state", "kind"] (defScope s_Book_behind_look) := ⟨rfl, rfl, rfl, by decide +kernel, rfl, by decide +kernel, by decide +kernel⟩
abbrev s_Book_behind_general : Stmt := inClass (topS 38) 26
theorem sc_Book_behind_general : FnScope ["self", "prices", "state", "kind"] ["self", "prices", "state", "kind"] (defScope s_Book_behind_general) := ⟨rfl, rfl, rfl, by decide +kernel, rfl, by decide +kernel, by decide +kernel⟩
abbrev s_Book_taken : Stmt := inClass (topS 38) 27
theorem sc_Book_taken : FnScope ["self", "prices", "state", "kind", "cost"] ["self", "prices", "state", "kind"] (defScope s_Book_taken) := ⟨rfl, rfl, rfl, by decide +kernel, rfl, by decide +kernel, by decide +kernel⟩
abbrev s_check_book : Stmt := topS 39
theorem sc_check_book : FnScope ["book"] ["book"] (defScope s_check_book) := ⟨rfl, rfl, rfl, by decide +kernel, rfl, by decide +kernel, by decide +kernel⟩
abbrev s_is_row : Stmt := topS 41
theorem sc_is_row : FnScope ["prices", "value", "word"] ["prices", "value"] (defScope s_is_row) := ⟨rfl, rfl, rfl, by decide +kernel, rfl, by decide +kernel, by decide +kernel⟩
abbrev s_check_row : Stmt := topS 42
theorem sc_check_row : FnScope ["prices", "row"] ["prices", "row"] (defScope s_check_row) := ⟨rfl, rfl, rfl, by decide +kernel, rfl, by decide +kernel, by decide +kernel⟩
abbrev s_Player_dd_init : Stmt := inClass (topS 43) 0
theorem sc_Player_dd_init : FnScope ["self", "book", "prices"] ["self", "book", "prices"] (defScope s_Player_dd_init) := ⟨rfl, rfl, rfl, by decide +kernel, rfl, by decide +kernel, by decide +kernel⟩
abbrev s_Player_dd_call : Stmt := inClass (topS 43) 1
theorem sc_Player_dd_call : FnScope ["self", "kind", "plan", "cost", "behind"] ["self", "kind"] (defScope s_Player_dd_call) := ⟨rfl, rfl, rfl, by decide +kernel, rfl, by decide +kernel, by decide +kernel⟩
abbrev s_Player_dd_iadd : Stmt := inClass (topS 43) 2
theorem sc_Player_dd_iadd : FnScope ["self", "kinds", "kind"] ["self", "kinds"] (defScope s_Player_dd_iadd) := ⟨rfl, rfl, rfl, by decide +kernel, rfl, by decide +kernel, by decide +kernel⟩
abbrev s_Player_state : Stmt := inClass (topS 43) 5
theorem sc_Player_state : FnScope ["self"] ["self"] (defScope s_Player_state) := ⟨rfl, rfl, rfl, by decide +kernel, rfl, by decide +kernel, by decide +kernel⟩
abbrev s_Player_plan : Stmt := inClass (topS 43) 6
theorem sc_Player_plan : FnScope ["self"] ["self"] (defScope s_Player_plan) := ⟨rfl, rfl, rfl, by decide +kernel, rfl, by decide +kernel, by decide +kernel⟩
abbrev s_Player_copied : Stmt := inClass (topS 43) 7
theorem sc_Player_copied : FnScope ["self", "other"] ["self"] (defScope s_Player_copied) := ⟨rfl, rfl, rfl, by decide +kernel, rfl, by decide +kernel, by decide +kernel⟩
abbrev s_worst_for : Stmt := topS 45
theorem sc_worst_for : FnScope ["prices", "plan", "found", "kind", "price", "share"] ["prices", "plan"] (defScope s_worst_for) := ⟨rfl, rfl, rfl, by decide +kernel, rfl, by decide +kernel, by decide +kernel⟩
abbrev s_floor_of : Stmt := topS 46
theorem sc_floor_of : FnScope ["prices", "own", "general"] ["prices"] (defScope s_floor_of) := ⟨rfl, rfl, rfl, by decide +kernel, rfl, by decide +kernel, by decide +kernel⟩
abbrev s_opponent : Stmt := topS 47
theorem sc_opponent : GScope ["book", "prices", "player", "floor", "own", "general", "kind"] ["book", "prices"] (defScope s_opponent) := ⟨rfl, rfl, rfl, by decide +kernel, rfl, by decide +kernel, by decide +kernel⟩
abbrev s_lw_numbers : Stmt := topS 49
theorem sc_lw_numbers : FnScope ["_law_cell", "_law_salt", "_law_sizes", "_law_whole", "_law_left", "_law_result", "_law_k", "_law_one"] ["_law_cell", "_law_salt", "_law_sizes"] (defScope s_lw_numbers) := ⟨rfl, rfl, rfl, by decide +kernel, rfl, by decide +kernel, by decide +kernel⟩
abbrev s_lw_pool : Stmt := topS 50
theorem sc_lw_pool : FnScope ["_law_cell", "_law_salt", "_law_many"] ["_law_cell", "_law_salt", "_law_many"] (defScope s_lw_pool) := ⟨rfl, rfl, rfl, by decide +kernel, rfl, by decide +kernel, by decide +kernel⟩
abbrev s_lw_draw : Stmt := topS 51
theorem sc_lw_draw : FnScope ["_law_pool_here", "_law_many", "_law_at"] ["_law_pool_here", "_law_many"] (defScope s_lw_draw) := ⟨rfl, rfl, rfl, by decide +kernel, rfl, by decide +kernel, by decide +kernel⟩
abbrev s_lw_sorted : Stmt := topS 52
theorem sc_lw_sorted : FnScope ["_law_some"] ["_law_some"] (defScope s_lw_sorted) := ⟨rfl, rfl, rfl, by decide +kernel, rfl, by decide +kernel, by decide +kernel⟩
abbrev s_lw_lesser : Stmt := topS 53
theorem sc_lw_lesser : FnScope ["_law_one", "_law_other"] ["_law_one", "_law_other"] (defScope s_lw_lesser) := ⟨rfl, rfl, rfl, by decide +kernel, rfl, by decide +kernel, by decide +kernel⟩
abbrev s_lw_opened : Stmt := topS 54
theorem sc_lw_opened : FnScope ["_law_script", "_law_k", "_law_many", "_law_cell"] ["_law_script", "_law_k", "_law_many"] (defScope s_lw_opened) := ⟨rfl, rfl, rfl, by decide +kernel, rfl, by decide +kernel, by decide +kernel⟩
abbrev s_lw_prices : Stmt := topS 55
theorem sc_lw_prices : FnScope ["_law_pool_here", "_law_words", "_law_kinds", "_law_word", "_law_own", "_law_make", "_law_general"] ["_law_pool_here", "_law_words"] (defScope s_lw_prices) := ⟨rfl, rfl, rfl, by decide +kernel, rfl, by decide +kernel, by decide +kernel⟩
abbrev s_lw_made_prices : Stmt := topS 56
theorem sc_lw_made_prices : FnScope ["_law_prices_here", "_law_kinds", "_law_given", "_law_word"] ["_law_prices_here"] (defScope s_lw_made_prices) := ⟨rfl, rfl, rfl, by decide +kernel, rfl, by decide +kernel, by decide +kernel⟩
abbrev s_lw_best_of : Stmt := topS 57
theorem sc_lw_best_of : FnScope ["_law_prices_here", "_law_kind", "_law_sort", "_law_own", "_law_general"] ["_law_prices_here", "_law_kind", "_law_sort"] (defScope s_lw_best_of) := ⟨rfl, rfl, rfl, by decide +kernel, rfl, by decide +kernel, by decide +kernel⟩
abbrev s_lw_worst : Stmt := topS 58
theorem sc_lw_worst : FnScope ["_law_prices_here", "_law_side", "_law_best", "_law_word", "_law_price", "_law_least"] ["_law_prices_here", "_law_side"] (defScope s_lw_worst) := ⟨rfl, rfl, rfl, by decide +kernel, rfl, by decide +kernel, by decide +kernel⟩
abbrev s_lw_told : Stmt := topS 59
theorem sc_lw_told : FnScope ["_law_door", "_law_prices_here", "_law_kind", "e"] ["_law_door", "_law_prices_here"] (defScope s_lw_told) := ⟨rfl, rfl, rfl, by decide +kernel, rfl, by decide +kernel, by decide +kernel⟩
abbrev s_lw_law : Stmt := topS 60
theorem sc_lw_law : FnScope ["_law_script", "_law_k", "_law_pool_here", "_law_prices_here", "_law_own", "_law_general", "_law_least", "_law_due", "_law_made", "_law_odd", "_law_door"] ["_law_script"] (defScope s_lw_law) := ⟨rfl, rfl, rfl, by decide +kernel, rfl, by decide +kernel, by decide +kernel⟩
end Ps

set_option maxHeartbeats 4000000
/-! Own operators over the hand layer: the operand on the left is an own instance; or an int on the left and an own instance on the right. -/
namespace Ps
open PySem PySem.Spec PyProof.Rows PySem.W L2

section
variable {prog : Program} {w : World} {A : Around} {E : Value → Shared → Prop} {s : Shared} {K : Frag} {x C L f f' : Addr} {h₀ : Heap} {m : Str → Option Value} {ox : Obj} {od : Option Obj}

theorem asInt_inst {M : Model} {Q : Option Int → Shared → Prop} {dx : Addr} (hx : s.heap.get? x = some (instObj C dx)) (h : Q none s) : wpAny M A (asInt? (.ref x)) Q E s := by
  unfold asInt?
  exact wpAny_bind (wpAny_load hx (wpAny_pure h))

theorem dec_add {t : Tok} {i : Int} {dx : Addr} {Q : Value → Shared → Prop} (hx : s.heap.get? x = some (instObj C dx)) (h : Q .notImplemented s) :
    wpAny (model prog w) A (call (.builtin "int.__add__") [.int i t, .ref x]) Q E s := by
  refine GQ.call_here F.slot_int_add (typeIs_int s i t) F.entry_int_add (F.args_int_add_2 _ _) ?_
  obtain ⟨hp, g, d, tk, os⟩ := s
  wp_walk using asInt_inst hx
  exact h
theorem dec_sub {t : Tok} {i : Int} {dx : Addr} {Q : Value → Shared → Prop} (hx : s.heap.get? x = some (instObj C dx)) (h : Q .notImplemented s) :
    wpAny (model prog w) A (call (.builtin "int.__sub__") [.int i t, .ref x]) Q E s := by
  refine GQ.call_here F.slot_int_sub (typeIs_int s i t) F.entry_int_sub (F.args_int_sub_2 _ _) ?_
  obtain ⟨hp, g, d, tk, os⟩ := s
  wp_walk using asInt_inst hx
  exact h
theorem dec_mul {t : Tok} {i : Int} {dx : Addr} {Q : Value → Shared → Prop} (hx : s.heap.get? x = some (instObj C dx)) (h : Q .notImplemented s) :
    wpAny (model prog w) A (call (.builtin "int.__mul__") [.int i t, .ref x]) Q E s := by
  refine GQ.call_here F.slot_int_mul (typeIs_int s i t) F.entry_int_mul (F.args_int_mul_2 _ _) ?_
  obtain ⟨hp, g, d, tk, os⟩ := s
  wp_walk using asInt_inst hx
  exact h
theorem dec_lt {t : Tok} {i : Int} {dx : Addr} {Q : Value → Shared → Prop} (hx : s.heap.get? x = some (instObj C dx)) (h : Q .notImplemented s) :
    wpAny (model prog w) A (call (.builtin "int.__lt__") [.int i t, .ref x]) Q E s := by
  refine GQ.call_here F.slot_int_lt (typeIs_int s i t) F.entry_int_lt (F.args_int_lt_2 _ _) ?_
  obtain ⟨hp, g, d, tk, os⟩ := s
  wp_walk using asInt_inst hx
  exact h
theorem dec_le {t : Tok} {i : Int} {dx : Addr} {Q : Value → Shared → Prop} (hx : s.heap.get? x = some (instObj C dx)) (h : Q .notImplemented s) :
    wpAny (model prog w) A (call (.builtin "int.__le__") [.int i t, .ref x]) Q E s := by
  refine GQ.call_here F.slot_int_le (typeIs_int s i t) F.entry_int_le (F.args_int_le_2 _ _) ?_
  obtain ⟨hp, g, d, tk, os⟩ := s
  wp_walk using asInt_inst hx
  exact h
theorem dec_gt {t : Tok} {i : Int} {dx : Addr} {Q : Value → Shared → Prop} (hx : s.heap.get? x = some (instObj C dx)) (h : Q .notImplemented s) :
    wpAny (model prog w) A (call (.builtin "int.__gt__") [.int i t, .ref x]) Q E s := by
  refine GQ.call_here F.slot_int_gt (typeIs_int s i t) F.entry_int_gt (F.args_int_gt_2 _ _) ?_
  obtain ⟨hp, g, d, tk, os⟩ := s
  wp_walk using asInt_inst hx
  exact h
theorem dec_ge {t : Tok} {i : Int} {dx : Addr} {Q : Value → Shared → Prop} (hx : s.heap.get? x = some (instObj C dx)) (h : Q .notImplemented s) :
    wpAny (model prog w) A (call (.builtin "int.__ge__") [.int i t, .ref x]) Q E s := by
  refine GQ.call_here F.slot_int_ge (typeIs_int s i t) F.entry_int_ge (F.args_int_ge_2 _ _) ?_
  obtain ⟨hp, g, d, tk, os⟩ := s
  wp_walk using asInt_inst hx
  exact h
theorem dec_eq {t : Tok} {i : Int} {dx : Addr} {Q : Value → Shared → Prop} (hx : s.heap.get? x = some (instObj C dx)) (h : Q .notImplemented s) :
    wpAny (model prog w) A (call (.builtin "int.__eq__") [.int i t, .ref x]) Q E s := by
  refine GQ.call_here F.slot_int_eq (typeIs_int s i t) F.entry_int_eq (F.args_int_eq_2 _ _) ?_
  obtain ⟨hp, g, d, tk, os⟩ := s
  wp_walk using asInt_inst hx
  exact h
theorem dec_ne {t : Tok} {i : Int} {dx : Addr} {Q : Value → Shared → Prop} (hx : s.heap.get? x = some (instObj C dx)) (h : Q .notImplemented s) :
    wpAny (model prog w) A (call (.builtin "int.__ne__") [.int i t, .ref x]) Q E s := by
  refine GQ.call_here F.slot_int_ne (typeIs_int s i t) F.entry_int_ne (F.args_int_ne_2 _ _) ?_
  obtain ⟨hp, g, d, tk, os⟩ := s
  wp_walk using asInt_inst hx
  exact h

/-- an int on the left, an own instance on the right: the reflected method -/
theorem binop_R {op : Operator} {t : Tok} {i : Int} {id : String} {Q : Value → Shared → Prop} (X : K.In s.heap) (I : InstAt s.heap x ox C od) (hc : selfFirst K C = true)
    (hs : findIn K (.ref C) (PySem.dunder op.info.2) = some (some (.ref f'))) (hr : findIn K (.ref C) (dunderR op.info.2) = some (some (.ref f))) (hf : isFn K (.ref f) = true)
    (hsub : subIn K (.ref C) (.type "int") = some false) (hfl : fillsNumberSlot (.type "int") op.info.2 = pure true) (sl : Slot "int" (PySem.dunder op.info.2) id)
    (hd : ∀ Q : Value → Shared → Prop, Q .notImplemented s → wpAny (model prog w) A (call (.builtin id) [.int i t, .ref x]) Q E s)
    (h : wpAny (model prog w) A (call (.ref f) [.ref x, .int i t]) (PySem.W.CmpBack Q) E s) : wpAny (model prog w) A (binaryOp op (.int i t) (.ref x)) Q E s := by
  obtain ⟨cd, rest, hcd, hm⟩ := ksp_first hc
  rcases hi : op.info with ⟨sym, nm'⟩
  rw [hi] at hs hr hfl sl
  dsimp only at hs hr hfl sl
  have one := ksp_try X I hr hf h
  obtain ⟨hh, g, d, tt, os⟩ := s
  have L1 : Looks (model prog w) hh (typeOf (.ref x)) (.ref C) := I.type
  have L2 : Looks (model prog w) hh (typeOf (.int i t)) (.type "int") := Looks.of_pure rfl
  have L3 : Looks (model prog w) hh (fillsNumberSlot (.ref C) nm') true := fills_K X hcd hm hs
  have L4 : Looks (model prog w) hh (fillsNumberSlot (.type "int") nm') true := Looks.of_pure hfl
  have L5 : Looks (model prog w) hh (isSubtype (.ref C) (.type "int")) false := looks_subIn X hsub
  have L7 : Looks (model prog w) hh (numberSlotInPython (.type "int") nm') false := Looks.of_pure rfl
  have dec : wpAny (model prog w) A (tryMethod (.int i t) (PySem.dunder nm') (.ref x)) (fun r s' => r = none ∧ s' = ⟨hh, g, d, tt, os⟩) E ⟨hh, g, d, tt, os⟩ :=
    wpAny_tryMethod_declines (typeIs_int _ i t) sl (hd _ ⟨rfl, rfl, rfl⟩)
  have hne : (Value.type "int" == Value.ref C) = false := Bool.eq_false_iff.mpr fun q => by cases beq_iff_eq.mp q
  simp only [binaryOp, hi]
  refine wpAny_holding (wpAny_bind ?_)
  unfold binaryOp1
  refine wpAny_bind (L2.at (wpAny_bind (L1.at (wpAny_bind (L4.at ?_)))))
  simp only [hne, Bool.false_eq_true, if_false]
  ksp_lk
  refine wpAny_mono dec (fun r s' hr' => ?_) fun _ _ e => e
  obtain ⟨rfl, rfl⟩ := hr'
  ksp_lk
  refine wpAny_mono one (fun r s' hr' => ?_) fun _ _ e => e
  obtain ⟨v, rfl, hq⟩ := hr'
  ksp_lk
  exact hq
end

/-! ### over the layer -/
section
variable {X : Cx} {CX : CXT} {k : Nat} {f C f' : Addr} {fd : FuncData} {ps : List Str} {sp : Sp} {E : XK}

theorem cmpBack {pins : List (Addr × Obj)} {σ : L2.St} {Q : VK} {u : Value} {s : Shared} (h : EP X pins σ Q u s) : PySem.W.CmpBack (EP X pins σ Q) u s := by
  obtain ⟨v, H', I, r, q⟩ := id h
  cases v with
  | non => cases (show u = Value.none from r); exact h
  | bl b => cases (show u = Value.bool b from r); exact h
  | int i => obtain ⟨t, e⟩ := (show ∃ t, u = Value.int i t from r); cases e; exact h
  | str x => obtain ⟨t, e⟩ := (show ∃ t, u = Value.str x t from r); cases e; exact h
  | byt b => obtain ⟨t, e⟩ := (show ∃ t, u = Value.bytes b t from r); cases e; exact h
  | flt b => obtain ⟨t, e⟩ := (show ∃ t, u = Value.float b t from r); cases e; exact h
  | ref a => cases (show u = Value.ref a from r); exact h
  | ty n => cases (show u = Value.type n from r); exact h

/-- the class at C has the method nm at f -/
structure OwnOp (K : Frag) (C f : Addr) (nm : Str) : Prop where
  sf : selfFirst K C = true
  fn : findIn K (.ref C) nm = some (some (.ref f))
  isf : isFn K (.ref f) = true

/-- what is said of an own instance -/
def InsC (C : Addr) (H : Hp) (v : V) : Prop := ∃ a dx fs, v = .ref a ∧ H a = some (.ins C dx fs)
def rOwn (C : Addr) (sp : Sp) (E : XK) : R2 := fun x y H Q => InsC C H x ∧ InsC C H y ∧ sp [x, y] H Q E
def rOwnI (C : Addr) (sp : Sp) (E : XK) : R2 := fun x y H Q => InsC C H x ∧ (∃ i, y = .int i) ∧ sp [x, y] H Q E
def rRefI (C : Addr) (sp : Sp) (E : XK) : R2 := fun x y H Q => (∃ i, x = .int i) ∧ InsC C H y ∧ sp [y, x] H Q E

theorem op_own {op : Operator} (O : OwnOp X.K C f (PySem.dunder op.info.2)) (G : FnOk X.prog X.w X.K X.mg X.base CX k f fd ps sp) (hr : Room k X.A) (hb : Binds X.K fd ps []) (hx : Passes CX X E) : OpR X (binaryOp op) (rOwn C sp E) := by
  intro pins s σ H x y v u Q I rx ry h
  obtain ⟨⟨a, dx, fs, rfl, ha⟩, ⟨b, dy, gs, rfl, hb'⟩, h⟩ := h
  cases (show v = Value.ref a from rx)
  cases (show u = Value.ref b from ry)
  obtain ⟨mA, J, _⟩ := ins_get I.hok ha
  obtain ⟨mB, J', _⟩ := ins_get I.hok hb'
  obtain ⟨od, J, _⟩ := J.look
  obtain ⟨od', J', _⟩ := J'.look
  obtain ⟨m, hF⟩ := I.fr
  refine binop_K hF I.ok.mod.kin J J'.type O.sf O.fn O.isf ?_
  exact wpAny_mono (run_fn (us := [.ref a, .ref b]) (vs := [.ref a, .ref b]) (dvs := []) G hr hb .nil hx I (.cons rfl (.cons rfl .nil)) h) (fun _ _ z => cmpBack z) fun _ _ z => z

theorem op_ownI {op : Operator} {fo ro rc : Option Value} (O : OwnOp X.K C f (PySem.dunder op.info.2)) (hrc : findIn X.K (.ref C) (dunderR op.info.2) = some rc) (hp : rc = none ∨ ∃ g : Addr, rc = some (.ref g))
    (h1 : findIn X.K (.type "int") (PySem.dunder op.info.2) = some fo) (h2 : findIn X.K (.type "int") (dunderR op.info.2) = some ro) (hsub : subIn X.K (.type "int") (.ref C) = some false)
    (G : FnOk X.prog X.w X.K X.mg X.base CX k f fd ps sp) (hr : Room k X.A) (hb : Binds X.K fd ps []) (hx : Passes CX X E) : OpR X (binaryOp op) (rOwnI C sp E) := by
  intro pins s σ H x y v u Q I rx ry h
  obtain ⟨⟨a, dx, fs, rfl, ha⟩, ⟨i, rfl⟩, h⟩ := h
  cases (show v = Value.ref a from rx)
  obtain ⟨t, e⟩ := (show ∃ t, u = Value.int i t from ry)
  cases e
  obtain ⟨mA, J, _⟩ := ins_get I.hok ha
  obtain ⟨od, J, _⟩ := J.look
  obtain ⟨m, hF⟩ := I.fr
  refine ksp_binT hF I.ok.mod.kin J (T := "int") rfl O.sf O.fn O.isf hrc hp h1 h2 hsub ?_
  exact wpAny_mono (run_fn (us := [.ref a, .int i t]) (vs := [.ref a, .int i]) (dvs := []) G hr hb .nil hx I (.cons rfl (.cons ⟨t, rfl⟩ .nil)) h) (fun _ _ z => cmpBack z) fun _ _ z => z

theorem op_refI {op : Operator} {id : String} (O : OwnOp X.K C f (dunderR op.info.2)) (hs : findIn X.K (.ref C) (PySem.dunder op.info.2) = some (some (.ref f'))) (hsub : subIn X.K (.ref C) (.type "int") = some false)
    (hfl : fillsNumberSlot (.type "int") op.info.2 = pure true) (sl : Slot "int" (PySem.dunder op.info.2) id)
    (hd : ∀ {s : Shared} {x C dx : Addr} {t : Tok} {i : Int} {Q : Value → Shared → Prop}, s.heap.get? x = some (instObj C dx) → Q .notImplemented s → wpAny (model X.prog X.w) X.A (call (.builtin id) [.int i t, .ref x]) Q X.xe s)
    (G : FnOk X.prog X.w X.K X.mg X.base CX k f fd ps sp) (hr : Room k X.A) (hb : Binds X.K fd ps []) (hx : Passes CX X E) : OpR X (binaryOp op) (rRefI C sp E) := by
  intro pins s σ H x y v u Q I rx ry h
  obtain ⟨⟨i, rfl⟩, ⟨a, dx, fs, rfl, ha⟩, h⟩ := h
  cases (show u = Value.ref a from ry)
  obtain ⟨t, e⟩ := (show ∃ t, v = Value.int i t from rx)
  cases e
  obtain ⟨mA, J0, _⟩ := ins_get I.hok ha
  obtain ⟨_, _, _, hget, _⟩ := (show ObjOk X.prog X.w H s.heap a (.ins C dx fs) from I.hok a _ ha)
  obtain ⟨od, J, _⟩ := J0.look
  refine binop_R I.kIn J O.sf hs O.fn O.isf hsub hfl sl (fun Q q => hd hget q) ?_
  exact wpAny_mono (run_fn (us := [.ref a, .int i t]) (vs := [.ref a, .int i]) (dvs := []) G hr hb .nil hx I (.cons rfl (.cons ⟨t, rfl⟩ .nil)) h) (fun _ _ z => cmpBack z) fun _ _ z => z

/-- -x, abs(x) -/
def rUOwn (C : Addr) (sp : Sp) (E : XK) : V → Hp → VK → Prop := fun x H Q => InsC C H x ∧ sp [x] H Q E
theorem un_own (O : OwnOp X.K C f "__neg__") (G : FnOk X.prog X.w X.K X.mg X.base CX k f fd ps sp) (hr : Room k X.A) (hb : Binds X.K fd ps []) (hx : Passes CX X E) : UnR X (unaryOp .USub) (rUOwn C sp E) := by
  intro pins s σ H x v Q I rx h
  obtain ⟨⟨a, dx, fs, rfl, ha⟩, h⟩ := h
  cases (show v = Value.ref a from rx)
  obtain ⟨mA, J, _⟩ := ins_get I.hok ha
  obtain ⟨od, J, _⟩ := J.look
  obtain ⟨m, hF⟩ := I.fr
  exact ksp_neg hF I.ok.mod.kin J O.fn O.isf (run_fn (us := [.ref a]) (vs := [.ref a]) (dvs := []) G hr hb .nil hx I (.cons rfl .nil) h)

/-- the callee runs, called out of a builtin -/
theorem run_fn1 {pins : List (Addr × Obj)} {σ : L2.St} {H : Hp} {s : Shared} {Q : VK} {us : List Value} {vs : List V} (F : FnOk X.prog X.w X.K X.mg X.base CX k f fd ps sp) (hr : Room (k + 1) X.A) (hb : Binds X.K fd ps []) (hx : Passes CX X E)
    (I : L2.Inv X pins σ H s) (r : Vals vs us) (h : sp vs H Q E) : wpAny (model X.prog X.w) X.A.in1 (call (.ref f) us) (EP X pins σ Q) X.xe s := by
  have hl : (us ++ []).length = ps.length := by rw [List.append_nil, ← r.length]; exact F.len _ _ _ _ h
  have hb' := hb s us I.kIn hl
  rw [List.append_nil] at hb'
  refine wpAny_call (codeAny_mono (F.run X.A.in1 X.stack s H ⟨us, []⟩ us vs Q E hr.in1 I.env0.in1 hb' r h) fun r s' hq => ?_)
  cases r with
  | error e => exact hx pins σ H s e s' I hq
  | ok fl =>
    cases fl with
    | ret u => exact I.after hq
    | next => exact False.elim hq
    | brk => exact False.elim hq
    | cont => exact False.elim hq
theorem call_absO (O : OwnOp X.K C f "__abs__") (G : FnOk X.prog X.w X.K X.mg X.base CX k f fd ps sp) (hr : Room (k + 1) X.A) (hb : Binds X.K fd ps []) (hx : Passes CX X E) : CallR X (.builtin "abs") (fun xs H Q => ∃ x, xs = [x] ∧ InsC C H x ∧ sp [x] H Q E) := by
  intro pins s σ H xs us Q I r h
  obtain ⟨x, rfl, ⟨a, dx, fs, rfl, ha⟩, h⟩ := h
  obtain ⟨u, rfl, r1⟩ := vals1 r
  cases (show u = Value.ref a from r1)
  obtain ⟨mA, J, _⟩ := ins_get I.hok ha
  obtain ⟨od, J, _⟩ := J.look
  refine PySem.Calls.call_function_entry kind_abs plain_abs entry_abs (args_abs _) ?_
  unfold Builtin.«abs»
  refine wpAny_bind (m := oneArg "abs" _) (wpAny_pure ?_)
  refine wpAny_bind (special_fn I.kIn J O.fn (beq_iff_eq.mp O.isf) (wpAny_mono (run_fn1 (us := [.ref a]) (vs := [.ref a]) G hr hb hx I (.cons rfl .nil) h) (fun v s' z => ?_) fun _ _ z => z))
  exact wpAny_pure ⟨_, rfl, z⟩
end
end Ps

/-! Defs, methods, classes, operators, properties of the text as things to be called, their addresses hidden. -/
namespace Ps
open PySem PySem.Spec PyProof.Rows PySem.W L2

/-- where one stands, the same for all defs of the text -/
structure Cz where
  P : Program
  w : World
  K : Frag
  mg : Str → Option Value
  base : Heap
abbrev Cz.ok (Z : Cz) (CX : CXT) (k : Nat) (f : Addr) (fd : FuncData) (ps : List Str) (sp : Sp) : Prop := FnOk Z.P Z.w Z.K Z.mg Z.base CX k f fd ps sp
/-- a def -/
def Cal (Z : Cz) (CX : CXT) (k : Nat) (x : Str) (ps : List Str) (dvs : List V) (sp : Sp) : Prop := ∃ f fd ds, Z.ok CX k f fd ps sp ∧ Z.mg x = some (.ref f) ∧ keepIn Z.K (.ref f) = true ∧ Binds Z.K fd ps ds ∧ Vals dvs ds
/-- a method m of the class at C -/
def CalM (Z : Cz) (CX : CXT) (k : Nat) (C : Addr) (m : Str) (ps : List Str) (dvs : List V) (sp : Sp) : Prop := ∃ f fd ds, Z.ok CX k f fd ps sp ∧ Meth Z.K C m f ∧ Cls Z.K C ∧ Binds Z.K fd ps ds ∧ Vals dvs ds
/-- the class at C, made by its __init__ -/
def CalC (Z : Cz) (CX : CXT) (k : Nat) (C : Addr) (x : Str) (ps : List Str) (dvs : List V) (sp : Sp) : Prop := ∃ f fd ds, Z.ok CX k f fd ps sp ∧ Mk Z.K C f ∧ Z.mg x = some (.ref C) ∧ Binds Z.K fd ps ds ∧ Vals dvs ds
/-- a special method nm of the class at C -/
def CalS (Z : Cz) (CX : CXT) (k : Nat) (C : Addr) (nm : Str) (ps : List Str) (sp : Sp) : Prop := ∃ f fd, Z.ok CX k f fd ps sp ∧ OwnOp Z.K C f nm ∧ Binds Z.K fd ps []
/-- a property -/
def CalP (Z : Cz) (CX : CXT) (k : Nat) (C : Addr) (nm : Str) (sp : Sp) : Prop := ∃ p g fd ds, Z.ok CX k g fd ["self"] sp ∧ PropOf Z.K C nm p g ∧ Cls Z.K C ∧ Binds Z.K fd ["self"] ds ∧ Vals [] ds

/-- a body stands in Z -/
structure InZ (Z : Cz) (X : Cx) : Prop where
  P : X.prog = Z.P
  w : X.w = Z.w
  K : X.K = Z.K
  mg : X.mg = Z.mg
  base : X.base = Z.base

section
variable {Z : Cz} {X : Cx} {CX : CXT} {k : Nat} {C : Addr} {ps : List Str} {sp : Sp} {dvs : List V} {E : XK} {x m nm : Str} {p pos apos : Pos} {e o a b : Expr} {es : List Expr} {ta tb : TE} {t : TA}
theorem InZ.ok (z : InZ Z X) {f : Addr} {fd : FuncData} (G : Z.ok CX k f fd ps sp) : FnOk X.prog X.w X.K X.mg X.base CX k f fd ps sp := by
  obtain ⟨h1, h2, h3, h4, h5⟩ := z
  rw [h1, h2, h3, h4, h5]
  exact G
theorem pe_cal (c : Cal Z CX k x ps dvs sp) (hr : Room k X.A) (hg : Gl X x) (hx : Passes CX X E) (ha : PA X (e :: es) t) (z : InZ Z X := by exact ⟨rfl, rfl, rfl, rfl, rfl⟩)
    (hdb : (x == ("__debug__" : Str)) = false := by decide) (he : starEach (e :: es) X.env = (false, eval e X.env) :: starEach es X.env := by rfl) (hpl : (backTo pos (starEach es X.env)).any (·.1) = false := by rfl) :
    PE X (.Call (.Name x p) (e :: es) [] pos) (tCall sp dvs E t) := by
  obtain ⟨f, fd, ds, G, h1, h2, h3, h4⟩ := c
  exact pe_call (z.ok G) hr hg (by rw [z.mg]; exact h1) (by rw [z.K]; exact h2) (by rw [z.K]; exact h3) h4 hx ha hdb he hpl
theorem pe_cal0 (c : Cal Z CX k x ps dvs sp) (hr : Room k X.A) (hg : Gl X x) (hx : Passes CX X E) (z : InZ Z X := by exact ⟨rfl, rfl, rfl, rfl, rfl⟩)
    (hdb : (x == ("__debug__" : Str)) = false := by decide) : PE X (.Call (.Name x p) [] [] pos) (tCall sp dvs E tNil) := by
  obtain ⟨f, fd, ds, G, h1, h2, h3, h4⟩ := c
  exact pe_call0 (z.ok G) hr hg (by rw [z.mg]; exact h1) (by rw [z.K]; exact h2) (by rw [z.K]; exact h3) h4 hx hdb
theorem pe_calM {pl : Sem Bool} (c : CalM Z CX k C m ps dvs sp) (hr : Room k X.A) (hx : Passes CX X E) (he : PE X o ta) (ha : PA X (e :: es) t) (z : InZ Z X := by exact ⟨rfl, rfl, rfl, rfl, rfl⟩)
    (hst : starEach (e :: es) X.env = (false, eval e X.env) :: starEach es X.env := by rfl) (hpl : (backTo pos (starEach es X.env)).any (·.1) = false := by rfl)
    (ht : eval (.Call (.Attribute o m apos) (e :: es) [] pos) X.env = (do
      let ov ← eval o X.env
      standAt apos.atName
      let (f, first) ← holding [ov] (getMethod ov m pl)
      callWith pos f first (backTo pos (starEach (e :: es) X.env)) (backToKw pos (keywordEach [] X.env))) := by rfl) :
    PE X (.Call (.Attribute o m apos) (e :: es) [] pos) (tMeth C m sp dvs E ta t) := by
  obtain ⟨f, fd, ds, G, h1, h2, h3, h4⟩ := c
  exact pe_meth (pl := pl) he (by rw [z.K]; exact h2) (by rw [z.K]; exact h1) (z.ok G) hr (by rw [z.K]; exact h3) h4 hx ha hst hpl ht
theorem pe_calM0 {pl : Sem Bool} (c : CalM Z CX k C m ps dvs sp) (hr : Room k X.A) (hx : Passes CX X E) (he : PE X o ta) (z : InZ Z X := by exact ⟨rfl, rfl, rfl, rfl, rfl⟩)
    (ht : eval (.Call (.Attribute o m apos) [] [] pos) X.env = (do
      let ov ← eval o X.env
      standAt apos.atName
      let (f, first) ← holding [ov] (getMethod ov m pl)
      callWith pos f first (backTo pos (starEach [] X.env)) (backToKw pos (keywordEach [] X.env))) := by rfl) :
    PE X (.Call (.Attribute o m apos) [] [] pos) (tMeth C m sp dvs E ta tNil) := by
  obtain ⟨f, fd, ds, G, h1, h2, h3, h4⟩ := c
  exact pe_meth0 (pl := pl) he (by rw [z.K]; exact h2) (by rw [z.K]; exact h1) (z.ok G) hr (by rw [z.K]; exact h3) h4 hx ht
theorem pe_calC (c : CalC Z CX k C x ps dvs sp) (hr : Room (k + 1) X.A) (hg : Gl X x) (hx : Passes CX X E) (ha : PA X (e :: es) t) (z : InZ Z X := by exact ⟨rfl, rfl, rfl, rfl, rfl⟩)
    (hdb : (x == ("__debug__" : Str)) = false := by decide) (he : starEach (e :: es) X.env = (false, eval e X.env) :: starEach es X.env := by rfl) (hpl : (backTo pos (starEach es X.env)).any (·.1) = false := by rfl) :
    PE X (.Call (.Name x p) (e :: es) [] pos) (tMake C sp dvs E t) := by
  obtain ⟨f, fd, ds, G, h1, h2, h3, h4⟩ := c
  exact pe_make (by rw [z.K]; exact h1) (z.ok G) hr hg (by rw [z.mg]; exact h2) (by rw [z.K]; exact h3) h4 hx ha hdb he hpl
theorem pe_calP (c : CalP Z CX k C nm sp) (hr : Room (k + 1) X.A) (hx : Passes CX X.nox E) (he : PE X e ta) (hab : attributeBase e nm X.env (eval e X.env) = eval e X.env) (z : InZ Z X := by exact ⟨rfl, rfl, rfl, rfl, rfl⟩) : PE X (.Attribute e nm pos) (tProp C sp [] E ta) := by
  obtain ⟨p, g, fd, ds, G, h1, h2, h3, h4⟩ := c
  exact pe_prop he (by rw [z.K]; exact h2) (by rw [z.K]; exact h1) (z.ok G) hr (by rw [z.K]; exact h3) h4 hx hab

/-- what is known of the number methods of a class and of int's -/
structure NumF (K : Frag) (C : Addr) (nm : String) : Prop where
  l : ∃ f, findIn K (.ref C) (PySem.dunder nm) = some (some (.ref f))
  r : ∃ f, findIn K (.ref C) (dunderR nm) = some (some (.ref f))
  il : ∃ o, findIn K (.type "int") (PySem.dunder nm) = some o
  ir : ∃ o, findIn K (.type "int") (dunderR nm) = some o
  sub : subIn K (.type "int") (.ref C) = some false
  sup : subIn K (.ref C) (.type "int") = some false
/-- a number on the right: x + y, x an own instance, y one or an int -/
def rNum (C : Addr) (sp : Sp) (E : XK) : R2 := fun x y H Q => InsC C H x ∧ (InsC C H y ∨ ∃ i, y = .int i) ∧ sp [x, y] H Q E
theorem op_num {op : Operator} (c : CalS Z CX k C (PySem.dunder op.info.2) ps sp) (N : NumF Z.K C op.info.2) (hr : Room k X.A) (hx : Passes CX X E) (z : InZ Z X := by exact ⟨rfl, rfl, rfl, rfl, rfl⟩) : OpR X (binaryOp op) (rNum C sp E) := by
  obtain ⟨f, fd, G, h1, h2⟩ := c
  obtain ⟨_, ⟨fr, hfr⟩, ⟨o1, ho1⟩, ⟨o2, ho2⟩, hs1, hs2⟩ := N
  have z' := z
  obtain ⟨e1, e2, e3, e4, e5⟩ := z
  intro pins s σ H x y v u Q I rx ry h
  obtain ⟨hx', hy | hy, hsp⟩ := h
  · exact op_own (by rw [e3]; exact h1) (z'.ok G) hr (by rw [e3]; exact h2) hx pins s σ H x y v u Q I rx ry ⟨hx', hy, hsp⟩
  · exact op_ownI (rc := some (.ref fr)) (by rw [e3]; exact h1) (by rw [e3]; exact hfr) (.inr ⟨fr, rfl⟩) (by rw [e3]; exact ho1) (by rw [e3]; exact ho2) (by rw [e3]; exact hs1) (z'.ok G) hr (by rw [e3]; exact h2) hx pins s σ H x y v u Q I rx ry ⟨hx', hy, hsp⟩
theorem op_rev {op : Operator} {id : String} (c : CalS Z CX k C (dunderR op.info.2) ps sp) (N : NumF Z.K C op.info.2) (hfl : fillsNumberSlot (.type "int") op.info.2 = pure true) (sl : Slot "int" (PySem.dunder op.info.2) id)
    (hd : ∀ {s : Shared} {x C dx : Addr} {t : Tok} {i : Int} {Q : Value → Shared → Prop}, s.heap.get? x = some (instObj C dx) → Q .notImplemented s → wpAny (model X.prog X.w) X.A (call (.builtin id) [.int i t, .ref x]) Q X.xe s)
    (hr : Room k X.A) (hx : Passes CX X E) (z : InZ Z X := by exact ⟨rfl, rfl, rfl, rfl, rfl⟩) : OpR X (binaryOp op) (rRefI C sp E) := by
  obtain ⟨f, fd, G, h1, h2⟩ := c
  obtain ⟨⟨fl, hfl'⟩, _, _, _, hs1, hs2⟩ := N
  have z' := z
  obtain ⟨e1, e2, e3, e4, e5⟩ := z
  exact op_refI (f' := fl) (by rw [e3]; exact h1) (by rw [e3]; exact hfl') (by rw [e3]; exact hs2) hfl sl hd (z'.ok G) hr (by rw [e3]; exact h2) hx
theorem op_radd (c : CalS Z CX k C "__radd__" ps sp) (N : NumF Z.K C "add") (hr : Room k X.A) (hx : Passes CX X E) (z : InZ Z X := by exact ⟨rfl, rfl, rfl, rfl, rfl⟩) : OpR X (binaryOp .Add) (rRefI C sp E) :=
  op_rev (op := .Add) c N F.fills_int_add F.slot_int_add (fun h q => dec_add h q) hr hx z
theorem op_rsub (c : CalS Z CX k C "__rsub__" ps sp) (N : NumF Z.K C "sub") (hr : Room k X.A) (hx : Passes CX X E) (z : InZ Z X := by exact ⟨rfl, rfl, rfl, rfl, rfl⟩) : OpR X (binaryOp .Sub) (rRefI C sp E) :=
  op_rev (op := .Sub) c N F.fills_int_sub F.slot_int_sub (fun h q => dec_sub h q) hr hx z
theorem op_rmul (c : CalS Z CX k C "__rmul__" ps sp) (N : NumF Z.K C "mul") (hr : Room k X.A) (hx : Passes CX X E) (z : InZ Z X := by exact ⟨rfl, rfl, rfl, rfl, rfl⟩) : OpR X (binaryOp .Mult) (rRefI C sp E) :=
  op_rev (op := .Mult) c N F.fills_int_mul F.slot_int_mul (fun h q => dec_mul h q) hr hx z
theorem un_cal (c : CalS Z CX k C "__neg__" ps sp) (hr : Room k X.A) (hx : Passes CX X E) (z : InZ Z X := by exact ⟨rfl, rfl, rfl, rfl, rfl⟩) : UnR X (unaryOp .USub) (rUOwn C sp E) := by
  obtain ⟨f, fd, G, h1, h2⟩ := c
  have z' := z
  obtain ⟨e1, e2, e3, e4, e5⟩ := z
  exact un_own (by rw [e3]; exact h1) (z'.ok G) hr (by rw [e3]; exact h2) hx
theorem abs_cal (c : CalS Z CX k C "__abs__" ps sp) (hr : Room (k + 1) X.A) (hx : Passes CX X E) (z : InZ Z X := by exact ⟨rfl, rfl, rfl, rfl, rfl⟩) : CallR X (.builtin "abs") (fun xs H Q => ∃ x, xs = [x] ∧ InsC C H x ∧ sp [x] H Q E) := by
  obtain ⟨f, fd, G, h1, h2⟩ := c
  have z' := z
  obtain ⟨e1, e2, e3, e4, e5⟩ := z
  exact call_absO (by rw [e3]; exact h1) (z'.ok G) hr (by rw [e3]; exact h2) hx
end
/-! ### tests -/
theorem iteD {c A B : Prop} [Decidable c] (h1 : c → A) (h2 : ¬ c → B) : if decide c = true then A else B := by
  by_cases h : c
  · rw [decide_eq_true h]; exact iteT (h1 h)
  · rw [decide_eq_false h]; exact iteF (h2 h)
theorem iteND {c A B : Prop} [Decidable c] (h1 : ¬ c → A) (h2 : c → B) : if (!decide c) = true then A else B := by
  by_cases h : c
  · rw [decide_eq_true h]; exact iteF (h2 h)
  · rw [decide_eq_false h]; exact iteT (h1 h)
theorem iteB {b : Bool} {A B : Prop} (h1 : b = true → A) (h2 : b = false → B) : if b = true then A else B := by
  cases b with
  | true => exact iteT (h1 rfl)
  | false => exact iteF (h2 rfl)
/-! ### short words for built-ins -/
section
variable {X : Cx} {e : Expr} {te : TE} {p pos : Pos}
/-- int(e) of an int -/
def rInt1 : List V → Hp → VK → Prop := fun xs H Q => ∃ i, xs = [.int i] ∧ Q (.int i) H
theorem call_intI : CallR X (.type "int") rInt1 := by
  intro pins s σ H xs us Q I r h
  exact call_int1 pins s σ H xs us Q I r (.inl h)
theorem pe_int1 (hg : Gl X "int") (hm : X.mg "int" = none) (he : PE X e te) (hs : starEach (e :: []) X.env = (false, eval e X.env) :: starEach [] X.env := by rfl) (hpl : (backTo pos (starEach [] X.env)).any (·.1) = false := by rfl) : PE X (.Call (.Name "int" p) [e] [] pos) (tCB rInt1 (tCons te tNil)) :=
  pe_callTy call_intI hg hm (by decide +kernel) (pa_cons he pa_nil hs) (by decide) (by decide) hs hpl
end
/-! ### from what stands behind the top -/
section
variable {Z : Cz} {CX : CXT} {k : Nat} {C : Addr} {ps : List Str} {sp : Sp} {dvs : List V} {x m nm qual : Str} {st : Stmt}
theorem Cal.mono {j : Nat} (c : Cal Z CX k x ps dvs sp) (h : k ≤ j) : Cal Z CX j x ps dvs sp := by
  obtain ⟨f, fd, ds, G, h1⟩ := c
  exact ⟨f, fd, ds, G.mono h, h1⟩
theorem CalM.mono {j : Nat} (c : CalM Z CX k C x ps dvs sp) (h : k ≤ j) : CalM Z CX j C x ps dvs sp := by
  obtain ⟨f, fd, ds, G, h1⟩ := c
  exact ⟨f, fd, ds, G.mono h, h1⟩
theorem CalS.mono {j : Nat} (c : CalS Z CX k C x ps sp) (h : k ≤ j) : CalS Z CX j C x ps sp := by
  obtain ⟨f, fd, G, h1⟩ := c
  exact ⟨f, fd, G.mono h, h1⟩
end
end Ps

/-! A head by facts: defs by where they stand (a global, a method, a property's getter, a static method), one Bool for all else. -/
namespace Ps
open PySem PySem.Spec PyProof.Rows PySem.W L2 He

inductive At where
  | g (x : Str)
  | m (x m : Str)
  | p (x m : Str)
  | ps (x m : Str)
  | sm (x m : Str)
def rec0 (K : Frag) (p : Addr) (T : String) : Addr := match recIn K p T with
  | some (.ref g :: _) => g
  | _ => 0
def rec1 (K : Frag) (p : Addr) (T : String) : Addr := match recIn K p T with
  | some (_ :: .ref g :: _) => g
  | _ => 0
def At.a (K : Frag) : At → Addr
  | .g x => ga K x
  | .m x n => ma K (ga K x) n
  | .p x n => rec0 K (ma K (ga K x) n) "property"
  | .ps x n => rec1 K (ma K (ga K x) n) "property"
  | .sm x n => rec0 K (ma K (ga K x) n) "staticmethod"
def hdB (K : Frag) (p : Addr) (T : String) (g : Addr) : Bool := match recIn K p T with
  | some (.ref h :: _) => decide (h = g)
  | _ => false
theorem hdB_ok {K : Frag} {p g : Addr} {T : String} (h : hdB K p T g = true) : ∃ rest, recIn K p T = some (.ref g :: rest) := by
  unfold hdB at h
  split at h
  · rename_i a r e
    exact ⟨r, by rw [e, of_decide_eq_true h]⟩
  · cases h
def findB (K : Frag) (C : Addr) (m : Str) : Bool := eqO (findIn K (.ref C) m) (some (some (.ref (ma K C m))))
def At.ok (K : Frag) : At → Bool
  | .g x => eqO (nsIn K mainGlobals x) (some (some (.ref (ga K x))))
  | .m x n => findB K (ga K x) n && (isFn K (.ref (ma K (ga K x) n)) && selfFirst K (ga K x))
  | .p x n => findB K (ga K x) n && (eqO (specialIn K (.ref (ma K (ga K x) n)) "__get__") (some (some (.builtin "property.__get__"))) && (decide (takesIn K (.ref (ma K (ga K x) n)) = some true) && hdB K (ma K (ga K x) n) "property" (rec0 K (ma K (ga K x) n) "property")))
  | .ps x n => true
  | .sm x n => findB K (ga K x) n && hdB K (ma K (ga K x) n) "staticmethod" (rec0 K (ma K (ga K x) n) "staticmethod")
section
variable {K : Frag} {h : Heap} {mg : Str → Option Value} {x m : Str}
theorem At.glo (X : K.In h) (G : h.Ns mainGlobals mg) (c : (At.g x).ok K = true) : mg x = some (.ref (ga K x)) := mg_of X G (eqO_ok c)
theorem At.own (c : (At.m x m).ok K = true) : OwnOp K (ga K x) (ma K (ga K x) m) m := by
  obtain ⟨c1, c⟩ := ba c
  obtain ⟨c2, c3⟩ := ba c
  exact ⟨c3, eqO_ok c1, c2⟩
theorem At.meth (c : (At.m x m).ok K = true) (k : keepIn K (.ref (ma K (ga K x) m)) = true) : Meth K (ga K x) m (ma K (ga K x) m) := by
  obtain ⟨c1, c⟩ := ba c
  obtain ⟨c2, c3⟩ := ba c
  exact ⟨eqO_ok c1, c2, k⟩
theorem At.prop (c : (At.p x m).ok K = true) : PropOf K (ga K x) m (ma K (ga K x) m) (rec0 K (ma K (ga K x) m) "property") := by
  obtain ⟨c1, c⟩ := ba c
  obtain ⟨c2, c⟩ := ba c
  obtain ⟨c3, c4⟩ := ba c
  exact ⟨eqO_ok c1, eqO_ok c2, of_decide_eq_true c3, hdB_ok c4⟩
end
structure DefP where
  at_ : At
  name : Str
  qual : Str
  st : Stmt
  dfl : List Dv := []
def fnP (K : Frag) (a : Addr) : FnW := match K.lookup a with
  | some ⟨_, _, .func fd, _⟩ => some (fd.name, fd.qualname, fd.params, fd.body, fd.scope, fd.globals, fd.closure, fd.builtins)
  | _ => none
def DefP.val (d : DefP) : FnW := some (d.name, d.qual, defArgs d.st, .stmts (defBody d.st), defScope d.st, mainGlobals, [], builtinsNs)
def DefP.dvs (K : Frag) (d : DefP) : List V := d.dfl.map (Dv.v K)
def DefP.ok (K : Frag) (d : DefP) : Bool := d.at_.ok K && (keepIn K (.ref (d.at_.a K)) && (match K.lookup (d.at_.a K) with
  | some ⟨_, _, .func fd, _⟩ => codeIn K fd.code d.qual && dflB K fd.defaults (d.dvs K)
  | _ => false))
theorem DefP.funD {K : Frag} {d : DefP} (e : fnP K (d.at_.a K) = d.val) (c : d.ok K = true) : d.at_.ok K = true ∧ ∃ fd, FunD K d.name d.qual (defArgs d.st) (defBody d.st) (defScope d.st) (d.dvs K) [] (d.at_.a K) fd := by
  obtain ⟨ca, c⟩ := ba c
  obtain ⟨kp, c2⟩ := ba c
  refine ⟨ca, ?_⟩
  unfold fnP at e
  cases q : K.lookup (d.at_.a K) with
  | none =>
    rw [q] at c2
    cases c2
  | some o =>
    obtain ⟨oc, od, dt, osl⟩ := o
    rw [q] at c2 e
    cases dt with
    | func fd =>
      obtain ⟨n1, n2, n3, n4, n5, n6, n7, n8, n9, n10, n11, n12, n13, n14, n15⟩ := fd
      have e2 : (some (n1, n2, n3, n4, n5, n6, n7, n15) : FnW) = some (d.name, d.qual, defArgs d.st, .stmts (defBody d.st), defScope d.st, mainGlobals, [], builtinsNs) := e
      simp only [Option.some.injEq, Prod.mk.injEq] at e2
      obtain ⟨h1, h2, h3, h4, h5, h6, h7, h8⟩ := e2
      subst h1 h2 h3 h4 h5 h6 h7 h8
      have c3 : (codeIn K n13 d.qual && dflB K n8 (d.dvs K)) = true := c2
      obtain ⟨k1, k3⟩ := ba c3
      exact ⟨_, ⟨oc, od, n8, n9, n10, n11, n12, n13, n14, osl, rfl, q, k1, dflB_ok k3, .inl rfl⟩, kp⟩
    | _ => cases c2
/-- without defaults -/
theorem FunD.toFun {K : Frag} {x qual : Str} {st : Stmt} {f : Addr} {fd : FuncData} (F : FunD K x qual (defArgs st) (defBody st) (defScope st) [] [] f fd) : Fun K x qual st f fd := by
  obtain ⟨⟨oc, od, dV, kV, doc, pm, an, cdv, ct, osl, e, lk, hcd, hD, hK⟩, kp⟩ := F
  rcases hD with ⟨_, rfl⟩ | ⟨z, _⟩
  · exact ⟨⟨oc, od, kV, doc, pm, an, cdv, ct, osl, e, lk, hcd⟩, kp⟩
  · exact absurd rfl z
abbrev AlP : Type := Bool × List FnW
def obsP (fn : List DefP) (ex : Frag → Bool) (K : Frag) : AlP := (ex K && fn.all fun d => d.ok K, fn.map fun d => fnP K (d.at_.a K))
def valP (fn : List DefP) : AlP := (true, fn.map DefP.val)
def SaysP (fn : List DefP) (ex : Frag → Bool) (K : Frag) : Prop := obsP fn ex K = valP fn
/-- what the names reach, and the interpreter's own statics -/
def asP (g : Addr → Option Obj) (n : Nat) : List Addr := asD g n ++ [cStatics]
def obsPG (n : Nat) (fn : List DefP) (ex : Frag → Bool) (g : Addr → Option Obj) : AlP := obsP fn ex (frG g (asP g n))
def hookP (n : Nat) (fn : List DefP) (ex : Frag → Bool) : Hook where
  α := AlP
  obs := fun s => obsPG n fn ex s.heap.get?
  val := fun _ => valP fn
  says := fun _ h => ∃ K : Frag, K.In h ∧ SaysP fn ex K
  of := fun _ _ e => ⟨_, frG_in, e⟩
  keeps := fun _ _ _ ⟨K, hK, c⟩ k => ⟨K, Frag.In.keeps hK k, c⟩
theorem obsPG_eq {n : Nat} {fn : List DefP} {ex : Frag → Bool} {g : Addr → Option Obj} {s : Shared} (h : ∀ a, g a = s.heap.get? a) : obsPG n fn ex g = (hookP n fn ex).obs s := by
  have e : g = s.heap.get? := funext h
  rw [e] <;> rfl
section
variable {fn : List DefP} {ex : Frag → Bool} {K : Frag}
theorem SaysP.more (c : SaysP fn ex K) : ex K = true := (ba (show (ex K && fn.all fun d => d.ok K) = true from congrArg (fun z : AlP => z.1) c)).1
theorem SaysP.def_ (c : SaysP fn ex K) (i : Nat) {d : DefP} (h : fn[i]? = some d := by rfl) : d.at_.ok K = true ∧ ∃ fd, FunD K d.name d.qual (defArgs d.st) (defBody d.st) (defScope d.st) (d.dvs K) [] (d.at_.a K) fd := by
  have c2 := (ba (show (ex K && fn.all fun d => d.ok K) = true from congrArg (fun z : AlP => z.1) c)).2
  have e : fn.map (fun d => fnP K (d.at_.a K)) = fn.map DefP.val := congrArg (fun z : AlP => z.2) c
  have e2 : (fn.map fun d => fnP K (d.at_.a K))[i]? = (fn.map DefP.val)[i]? := by rw [e]
  rw [List.getElem?_map, List.getElem?_map, h] at e2
  exact DefP.funD (Option.some.inj e2) (List.all_eq_true.mp c2 d (List.mem_of_getElem? h))
end
/-- the plain def at x: what is known of it -/
structure Got (K : Frag) (mg : Str → Option Value) (x : Str) (st : Stmt) (f : Addr) (fd : FuncData) : Prop where
  F : Fun K x x st f fd
  m : mg x = some (.ref f)
/-- the method m of class x -/
structure GotM (K : Frag) (C : Addr) (m qual : Str) (st : Stmt) (f : Addr) (fd : FuncData) : Prop where
  F : Fun K m qual st f fd
  o : OwnOp K C f m
structure GotP (K : Frag) (C : Addr) (m qual : Str) (st : Stmt) (p f : Addr) (fd : FuncData) : Prop where
  F : Fun K m qual st f fd
  o : PropOf K C m p f
section
variable {fn : List DefP} {ex : Frag → Bool} {K : Frag} {h : Heap} {mg : Str → Option Value} {x m qual : Str} {st : Stmt}
theorem SaysP.glo (c : SaysP fn ex K) (X : K.In h) (G : h.Ns mainGlobals mg) (i : Nat) (e : fn[i]? = some ⟨.g x, x, x, st, []⟩) : ∃ f fd, Got K mg x st f fd := by
  obtain ⟨a, fd, F⟩ := c.def_ i e
  exact ⟨_, fd, ⟨FunD.toFun F, At.glo X G a⟩⟩
theorem SaysP.meth (c : SaysP fn ex K) (i : Nat) (e : fn[i]? = some ⟨.m x m, m, qual, st, []⟩) : ∃ f fd, GotM K (ga K x) m qual st f fd := by
  obtain ⟨a, fd, F⟩ := c.def_ i e
  exact ⟨_, fd, ⟨FunD.toFun F, At.own a⟩⟩
theorem SaysP.prop (c : SaysP fn ex K) (i : Nat) (e : fn[i]? = some ⟨.p x m, m, qual, st, []⟩) : ∃ p f fd, GotP K (ga K x) m qual st p f fd := by
  obtain ⟨a, fd, F⟩ := c.def_ i e
  exact ⟨_, _, fd, ⟨FunD.toFun F, At.prop a⟩⟩
end
section
variable {Z : Cz} {CX : CXT} {k : Nat} {C : Addr} {ps : List Str} {sp : Sp} {x m qual : Str} {st : Stmt} {p f : Addr} {fd : FuncData}
theorem Got.cal (g : Got Z.K Z.mg x st f fd) (G : Z.ok CX k f fd ps sp) (b : Binds Z.K fd ps []) : Cal Z CX k x ps [] sp := ⟨f, fd, [], G, g.m, g.F.kp, b, .nil⟩
theorem GotM.calS (g : GotM Z.K C m qual st f fd) (G : Z.ok CX k f fd ps sp) (b : Binds Z.K fd ps []) : CalS Z CX k C m ps sp := ⟨f, fd, G, g.o, b⟩
theorem GotM.calM (g : GotM Z.K C m qual st f fd) (cl : Cls Z.K C) (G : Z.ok CX k f fd ps sp) (b : Binds Z.K fd ps []) : CalM Z CX k C m ps [] sp := ⟨f, fd, [], G, ⟨g.o.fn, g.o.isf, g.F.kp⟩, cl, b, .nil⟩
theorem GotP.calP (g : GotP Z.K C m qual st p f fd) (cl : Cls Z.K C) (G : Z.ok CX k f fd ["self"] sp) (b : Binds Z.K fd ["self"] []) : CalP Z CX k C m sp := ⟨p, f, fd, [], G, g.o, cl, b, .nil⟩
end
/-! ### Bools of further facts -/
def numB (K : Frag) (C : Addr) (nm : String) : Bool := findB K C (PySem.dunder nm) && (findB K C (dunderR nm) && ((findIn K (.type "int") (PySem.dunder nm)).isSome && ((findIn K (.type "int") (dunderR nm)).isSome && (decide (subIn K (.type "int") (.ref C) = some false) && decide (subIn K (.ref C) (.type "int") = some false)))))
theorem numB_ok {K : Frag} {C : Addr} {nm : String} (c : numB K C nm = true) : NumF K C nm := by
  obtain ⟨c1, c⟩ := ba c
  obtain ⟨c2, c⟩ := ba c
  obtain ⟨c3, c⟩ := ba c
  obtain ⟨c4, c⟩ := ba c
  obtain ⟨c5, c6⟩ := ba c
  exact ⟨⟨_, eqO_ok c1⟩, ⟨_, eqO_ok c2⟩, Option.isSome_iff_exists.mp c3, Option.isSome_iff_exists.mp c4, of_decide_eq_true c5, of_decide_eq_true c6⟩
def freeB (K : Frag) (xs : List Str) : Bool := xs.all fun x => eqO (nsIn K mainGlobals x) (some none)
theorem freeB_ok {K : Frag} {h : Heap} {mg : Str → Option Value} (X : K.In h) (G : h.Ns mainGlobals mg) {xs : List Str} (c : freeB K xs = true) {x : Str} (hx : x ∈ xs) : mg x = none := mg_none_of X G (eqO_ok (List.all_eq_true.mp c x hx))
end Ps

/-! What the names reach, gathered in rounds: the seen addresses are a Nat's bits (the kernel's own arithmetic), each object is looked at once. -/
namespace Ps
open PySem PySem.Spec PyProof.Rows PySem.W L2 He

section
variable {α : Type} (g : Addr → Option Obj)
def inQ (k : Nat → Frag → List Addr → α) : List Addr → Nat → Frag → List Addr → α
  | [], v, acc, nx => k v acc nx
  | a :: r, v, acc, nx => HandSHeadRun.frNat a fun a => match Nat.land (Nat.shiftRight v a) 1 with
    | 0 => (match g a with
      | some o => HandSHeadRun.frNat (Nat.lor v (Nat.shiftLeft 1 a)) fun v => inQ k r v ((a, o) :: acc) (refsD o ++ nx)
      | none => inQ k r v acc nx)
    | _ + 1 => inQ k r v acc nx
def outQ (k : Frag → α) : Nat → List Addr → Nat → Frag → α
  | 0, l, v, acc => inQ g (fun _ acc _ => k acc) l v acc []
  | n + 1, l, v, acc => inQ g (fun v acc nx => outQ k n nx v acc) l v acc []
def GoodQ (acc : Frag) : Prop := ∀ a o, acc.lookup a = some o → g a = some o
variable {g}
theorem GoodQ.cons {acc : Frag} {a : Addr} {o : Obj} (h : GoodQ g acc) (e : g a = some o) : GoodQ g ((a, o) :: acc) := fun b o' q => by
  have q2 : (match b == a with | true => some o | false => acc.lookup b) = some o' := q
  cases z : (b == a) with
  | true =>
    rw [z] at q2
    have eo : o = o' := Option.some.inj q2
    rw [beq_iff_eq.mp z, e, eo]
  | false =>
    rw [z] at q2
    exact h _ _ q2
theorem inQ_ok {Φ : α → Prop} {k : Nat → Frag → List Addr → α} (hk : ∀ v acc nx, GoodQ g acc → Φ (k v acc nx)) : ∀ (l : List Addr) (v : Nat) (acc : Frag) (nx : List Addr), GoodQ g acc → Φ (inQ g k l v acc nx)
  | [], v, acc, nx, h => hk v acc nx h
  | a :: r, v, acc, nx, h => by
    unfold inQ
    rw [HandSHeadRun.frNat_eq]
    cases Nat.land (Nat.shiftRight v a) 1 with
    | zero =>
      show Φ (match g a with
        | some o => HandSHeadRun.frNat (Nat.lor v (Nat.shiftLeft 1 a)) fun v => inQ g k r v ((a, o) :: acc) (refsD o ++ nx)
        | none => inQ g k r v acc nx)
      cases e : g a with
      | none => exact inQ_ok hk r v acc nx h
      | some o =>
        show Φ (HandSHeadRun.frNat (Nat.lor v (Nat.shiftLeft 1 a)) fun v => inQ g k r v ((a, o) :: acc) (refsD o ++ nx))
        rw [HandSHeadRun.frNat_eq]
        exact inQ_ok hk r _ _ _ (h.cons e)
    | succ n => exact inQ_ok hk r v acc nx h
theorem outQ_ok {Φ : α → Prop} {k : Frag → α} (hk : ∀ acc, GoodQ g acc → Φ (k acc)) : ∀ (n : Nat) (l : List Addr) (v : Nat) (acc : Frag), GoodQ g acc → Φ (outQ g k n l v acc)
  | 0, l, v, acc, h => inQ_ok (fun _ acc _ q => hk acc q) l v acc [] h
  | n + 1, l, v, acc, h => inQ_ok (fun v acc nx q => outQ_ok hk n nx v acc q) l v acc [] h
end
def obsQG (n : Nat) (fn : List DefP) (ex : Frag → Bool) (g : Addr → Option Obj) : AlP := outQ g (obsP fn ex) n [mainGlobals] 0 (frG g [cStatics])
theorem goodQ_nil {g : Addr → Option Obj} (as : List Addr) : GoodQ g (frG g as) := fun _ _ e => frG_at as e
def hookQ (n : Nat) (fn : List DefP) (ex : Frag → Bool) : Hook where
  α := AlP
  obs := fun s => obsQG n fn ex s.heap.get?
  val := fun _ => valP fn
  says := fun _ h => ∃ K : Frag, K.In h ∧ SaysP fn ex K
  of := fun _ s e => outQ_ok (g := s.heap.get?) (Φ := fun z => z = valP fn → ∃ K : Frag, K.In s.heap ∧ SaysP fn ex K) (fun acc q z => ⟨acc, q, z⟩) n _ 0 _ (goodQ_nil _) e
  keeps := fun _ _ _ ⟨K, hK, c⟩ k => ⟨K, Frag.In.keeps hK k, c⟩
theorem obsQG_eq {n : Nat} {fn : List DefP} {ex : Frag → Bool} {g : Addr → Option Obj} {s : Shared} (h : ∀ a, g a = s.heap.get? a) : obsQG n fn ex g = (hookQ n fn ex).obs s := by
  have e : g = s.heap.get? := funext h
  rw [e] <;> rfl
end Ps

/-! Static methods called by the class's name. -/
namespace Ps
open PySem PySem.Spec PyProof.Rows PySem.W L2 He

/-- C.m is a static method: its record at p, its def at g -/
structure StM (K : Frag) (C : Addr) (m : Str) (p g : Addr) : Prop where
  rd : readsIn K C (.type "type") = true
  ga : specialIn K (.ref C) "__getattribute__" = some (some (.builtin "type.__getattribute__"))
  at_ : findCls K (.ref C) (.type "type") m = some (.get (.builtin "staticmethod.__get__") (.ref p) .none (.ref C))
  rc : ∃ rest, recIn K p "staticmethod" = some (.ref g :: rest)
  kp : keepIn K (.ref g) = true
def CalT (Z : Cz) (CX : CXT) (k : Nat) (C : Addr) (m : Str) (sp : Sp) : Prop := ∃ p g, FnR Z.P Z.w Z.K Z.mg Z.base CX k g sp ∧ StM Z.K C m p g
def tSMeth (C : Addr) (sp : Sp) (E : XK) (ta : TE) (t : TA) : TE := fun σ H Q => ta σ H fun x H1 => x = .ref C ∧ t σ H1 fun vs H2 => sp vs H2 Q E
section
variable {Z : Cz} {X : Cx} {CX : CXT} {k : Nat} {C : Addr} {sp : Sp} {E : XK} {o e : Expr} {es : List Expr} {m : Str} {pos apos : Pos} {ta : TE} {t : TA} {pl : Sem Bool}
theorem getsm_ok {p g : Addr} {pins : List (Addr × Obj)} {σ : L2.St} {H : Hp} {s : Shared} {A : Around} {Er : Value → Shared → Prop} {Q : Value × List Value → Shared → Prop} (I : L2.Inv X pins σ H s) (r : StM X.K C m p g)
    (h : ∀ s', L2.Inv X pins σ H s' → Q (.ref g, []) s') : wpAny (model X.prog X.w) A (getMethod (.ref C) m pl) Q Er s := by
  obtain ⟨rest, hp⟩ := r.rc
  refine method_cls I.kIn r.ga ?_
  refine cls_bind I.kIn r.rd r.at_ ?_
  refine wpAny_call (sm_get (s := { s with toks := s.toks + 1 }) I.kIn hp (handed_on rfl ?_))
  exact h _ (I.tok _)
theorem pe_calT (c : CalT Z CX k C m sp) (hr : Room k X.A) (hx : Passes CX X E) (he : PE X o ta) (ha : PA X (e :: es) t) (z : InZ Z X := by exact ⟨rfl, rfl, rfl, rfl, rfl⟩)
    (hst : starEach (e :: es) X.env = (false, eval e X.env) :: starEach es X.env := by rfl) (hpl : (backTo pos (starEach es X.env)).any (·.1) = false := by rfl)
    (ht : eval (.Call (.Attribute o m apos) (e :: es) [] pos) X.env = (do
      let ov ← eval o X.env
      standAt apos.atName
      let (f, first) ← holding [ov] (getMethod ov m pl)
      callWith pos f first (backTo pos (starEach (e :: es) X.env)) (backToKw pos (keywordEach [] X.env))) := by rfl) :
    PE X (.Call (.Attribute o m apos) (e :: es) [] pos) (tSMeth C sp E ta t) := by
  obtain ⟨p, g, F, r⟩ := c
  obtain ⟨e1, e2, e3, e4, e5⟩ := z
  have F' : FnR X.prog X.w X.K X.mg X.base CX k g sp := by rw [e1, e2, e3, e4, e5]; exact F
  rw [← e3] at r
  refine ⟨fun pins s σ H Q I h => ?_⟩
  refine methodCall_KW (pl := pl) (thn (he.run pins s σ H _ I h) fun u s1 ⟨x, H1, I1, rx, ex, q⟩ => ?_) ht
  subst ex
  obtain rfl : u = Value.ref C := rx
  refine getsm_ok I1 r fun s2 I2 => ?_
  refine callWith_K (h₀ := X.base) I2.ok.mod.kin r.kp (thn (ha.run pos _ s2 σ H1 _ I2 q) fun us s3 ⟨vs, H2, I3, rv, q2⟩ => ⟨I3.kIn, ?_⟩) hst hpl
  exact wpAny_call (run_fnR F' hr hx I3 rv q2)
theorem pe_calT0 (c : CalT Z CX k C m sp) (hr : Room k X.A) (hx : Passes CX X E) (he : PE X o ta) (z : InZ Z X := by exact ⟨rfl, rfl, rfl, rfl, rfl⟩)
    (ht : eval (.Call (.Attribute o m apos) [] [] pos) X.env = (do
      let ov ← eval o X.env
      standAt apos.atName
      let (f, first) ← holding [ov] (getMethod ov m pl)
      callWith pos f first (backTo pos (starEach [] X.env)) (backToKw pos (keywordEach [] X.env))) := by rfl) :
    PE X (.Call (.Attribute o m apos) [] [] pos) (tSMeth C sp E ta tNil) := by
  obtain ⟨p, g, F, r⟩ := c
  obtain ⟨e1, e2, e3, e4, e5⟩ := z
  have F' : FnR X.prog X.w X.K X.mg X.base CX k g sp := by rw [e1, e2, e3, e4, e5]; exact F
  rw [← e3] at r
  refine ⟨fun pins s σ H Q I h => ?_⟩
  refine methodCall_KW (pl := pl) (thn (he.run pins s σ H _ I h) fun u s1 ⟨x, H1, I1, rx, ex, q⟩ => ?_) ht
  subst ex
  obtain rfl : u = Value.ref C := rx
  refine getsm_ok I1 r fun s2 I2 => ?_
  refine callWith_K0 I2.kIn r.kp ?_
  exact wpAny_call (run_fnR F' hr hx I2 (us := []) (vs := []) .nil q)
end
/-! behind the top -/
def statB (K : Frag) (x m : Str) : Bool := readsIn K (ga K x) (.type "type") && (eqO (specialIn K (.ref (ga K x)) "__getattribute__") (some (some (.builtin "type.__getattribute__"))) &&
  (match findCls K (.ref (ga K x)) (.type "type") m with
    | some (.get (.builtin b) (.ref p) .none (.ref c)) => decide (b = "staticmethod.__get__") && (decide (p = ma K (ga K x) m) && decide (c = ga K x))
    | _ => false))
theorem statB_ok {K : Frag} {x m : Str} (c : statB K x m = true) (a : (At.sm x m).ok K = true) (k : keepIn K (.ref ((At.sm x m).a K)) = true) : StM K (ga K x) m (ma K (ga K x) m) ((At.sm x m).a K) := by
  obtain ⟨c1, c⟩ := ba c
  obtain ⟨c2, c3⟩ := ba c
  obtain ⟨a1, a2⟩ := ba a
  refine ⟨c1, eqO_ok c2, ?_, hdB_ok a2, k⟩
  split at c3
  · rename_i b p c' e
    obtain ⟨d1, d⟩ := ba c3
    obtain ⟨d2, d3⟩ := ba d
    rw [e, of_decide_eq_true d1, of_decide_eq_true d2, of_decide_eq_true d3]
  · cases c3
theorem SaysP.stat {fn : List DefP} {ex : Frag → Bool} {K : Frag} {x m qual : Str} {st : Stmt} (c : SaysP fn ex K) (i : Nat) (e : fn[i]? = some ⟨.sm x m, m, qual, st, []⟩) (h : statB K x m = true) : ∃ p g fd, StM K (ga K x) m p g ∧ Fun K m qual st g fd := by
  obtain ⟨a, fd, F⟩ := c.def_ i e
  exact ⟨_, _, fd, statB_ok h a F.kp, FunD.toFun F⟩
/-- def m(*v) -/
theorem Fun.star0 {Z : Cz} {x qual pv : Str} {st : Stmt} {f : Addr} {fd : FuncData} {N : List Str} {k : Nat} {sp : Sp} {CX : CXT} (F : Fun Z.K x qual st f fd) (S : FnScope N [pv] (defScope st)) (hCX : StX.CXUp CX)
    (h0 : ∀ (kV doc pm : Value) (an : Option Addr) (cdv ct : Value), bindArgs (fnOf x qual (defArgs st) (defBody st) (defScope st) .none kV doc pm an cdv ct) ⟨[], []⟩ = (newTuple [] >>= fun t => pure [(pv, t)]))
    (h1 : ∀ (kV doc pm : Value) (an : Option Addr) (cdv ct : Value) (r : Value) (rs : List Value), bindArgs (fnOf x qual (defArgs st) (defBody st) (defScope st) .none kV doc pm an cdv ct) ⟨r :: rs, []⟩ = (newTuple (r :: rs) >>= fun t => pure [(pv, t)]))
    (hbody : ∀ (cdv : Value) (A : Around) (outer : List Env) (s : Shared) (H : Hp) (vs : List V) (Q : VK) (E : XK), Room k (A.deeper (envOfC qual (defScope st) s.heap.objs.size f cdv)) → sp vs H Q E →
      ∃ t, PSs (cxOf CX Z.P Z.w Z.K Z.mg Z.base N qual (defScope st) f cdv A outer s H E) (defBody st) t ∧ t { nx := fun _ H' => Q .non H', rt := Q } (start N vs) H) :
    FnR Z.P Z.w Z.K Z.mg Z.base CX (k + 1) f (fun vs H Q E => vs.length ≤ sizeLine ∧ ∀ p, H p = none → sp [V.ref p] (upd H p (.tup vs)) Q E) := by
  obtain ⟨oc, od, kV, doc, pm, an, cdv, ct, osl, rfl, lk, hcd⟩ := F.ex
  have G := StX.fn_star (ps := []) (pv := pv) (sp := sp) (k := k) (P := Z.P) (w := Z.w) (mg := Z.mg) (base := Z.base) lk hcd S hCX (fun us rest hl => match us, rest, hl with | [], [], _ => h0 kV doc pm an cdv ct | [], r :: rs, _ => h1 kV doc pm an cdv ct r rs) (fun A outer s H vs Q E hr hsp => hbody cdv A outer s H vs Q E hr hsp)
  exact G.imp fun vs H Q E ⟨hl, h⟩ => ⟨[], vs, rfl, rfl, hl, h⟩
end Ps

/-! Own comparisons: an own instance on the left, anything on the right; an int on the left, an own instance on the right; != by ==; x op= y without an own in-place method. -/
namespace Ps
open PySem PySem.Spec PyProof.Rows PySem.W L2

section
variable {prog : Program} {w : World} {A : Around} {E : Value → Shared → Prop} {s : Shared} {K : Frag} {x C L f : Addr} {h₀ : Heap} {m : Str → Option Value} {ox : Obj} {od : Option Obj} {b tb : Value}

theorem ifBound_objNe {M : Model} {args : List Value} {Q : Option Value → Shared → Prop} (X : K.In s.heap) (I : InstAt s.heap x ox C od) (hs : findIn K (.ref C) "__ne__" = some (some (.builtin "object.__ne__")))
    (h : wpAny M A (call (.builtin "object.__ne__") (.ref x :: args)) (fun v => Q (some v)) E s) : wpAny M A (callSpecialIfBound? (.ref x) "__ne__" args) Q E s := by
  simp only [callSpecialIfBound?, bindSpecialIfBound?]
  refine wpAny_holding (wpAny_bind (wpAny_bind (wpAny_bind (I.type.here ((looks_findIn X hs).here ?_)))))
  refine wpAny_bind (wpAny_askSetting (wpAny_ite ?_))
  have fin : wpAny M A (call (.builtin "object.__ne__") ([.ref x] ++ args) >>= fun v => pure (some v)) Q E s := wpAny_bind (wpAny_mono h (fun v s' h' => wpAny_pure h') fun _ _ h' => h')
  split
  · exact wpAny_bind (wpAny_of_eq (F.cmp_object.ne.bind _) (wpAny_pure (by exact fin)))
  · exact wpAny_tryCatch (wpAny_bind (wpAny_of_eq (F.cmp_object.ne.bind _) (wpAny_pure (by exact fin))))
theorem objNe_entry {Q : Fin → Shared → Prop} (hu : A.units < cLine) (X : K.In s.heap) (I : InstAt s.heap x ox C od) (hs : findIn K (.ref C) "__eq__" = some (some (.ref f))) (hf : isFn K (.ref f) = true)
    (h : wpAny (model prog w) A (call (.ref f) [.ref x, b]) (fun v s' => ∃ r, v = .bool r ∧ Q (.done (.ret (.bool (!r)))) s') E s) : wpAny (model prog w) A (Builtin.«object.__ne__» ⟨[.ref x, b], []⟩) Q E s := by
  unfold Builtin.«object.__ne__»
  refine wpAny_bind (m := slotArgs "__ne__" 1 _) (wpAny_pure ?_)
  show wpAny _ _ (cRoomFor "comparison" [.ref x, b] >>= _) _ _ _
  refine wpAny_bind (wpAny_cRoomFor hu ?_)
  refine wpAny_bind (m := callSpecialIfBound? (.ref x) (Str.ofString "__eq__") [b]) (ifBound_K X I hs hf (wpAny_mono h (fun v s' hv => ?_) fun _ _ y => y))
  obtain ⟨r, rfl, hq⟩ := hv
  show wpAny _ _ (truthy (.bool r) >>= _) _ _ _
  exact wpAny_bind (wpAny_truthy_bool (wpAny_pure hq))
theorem tryNe {Q : Option Value → Shared → Prop} (hu : A.units + 1 < cLine) (X : K.In s.heap) (I : InstAt s.heap x ox C od) (hne : findIn K (.ref C) "__ne__" = some (some (.builtin "object.__ne__"))) (hm : mroIn K C (.type "object") = some true)
    (hs : findIn K (.ref C) "__eq__" = some (some (.ref f))) (hf : isFn K (.ref f) = true)
    (h : wpAny (model prog w) A.in1 (call (.ref f) [.ref x, b]) (fun v s' => ∃ r, v = .bool r ∧ Q (some (.bool (!r))) s') E s) : wpAny (model prog w) A (tryCompare (.ref x) "__ne__" b) Q E s := by
  unfold tryCompare
  refine wpAny_bind (ifBound_objNe X I hne ?_)
  refine wpAny_call (codeAny_call_builtin F.cmp_object.ne.plain F.cmpEntry_ne (check_slot F.cmpKind_ne F.cmpSplit_ne (I.type.andThen (looks_mroIn X hm)) (F.cmpArgs_ne _ _) ?_))
  refine objNe_entry (A := A.in1) hu X I hs hf (wpAny_mono h (fun v s' hv => ?_) fun _ _ e => e)
  obtain ⟨r, rfl, hq⟩ := hv
  exact ⟨r, rfl, wpAny_pure hq⟩
/-- x != b by the own == -/
theorem cmp_ne {Q : Value → Shared → Prop} (hu : A.units + 1 < cLine) (X : K.In s.heap) (I : InstAt s.heap x ox C od) (hb : Looks (model prog w) s.heap (typeOf b) tb) (hn : notFirst K C tb = true)
    (hne : findIn K (.ref C) "__ne__" = some (some (.builtin "object.__ne__"))) (hm : mroIn K C (.type "object") = some true) (hs : findIn K (.ref C) "__eq__" = some (some (.ref f))) (hf : isFn K (.ref f) = true)
    (h : wpAny (model prog w) A.in1 (call (.ref f) [.ref x, b]) (fun v s' => ∃ r, v = .bool r ∧ Q (.bool (!r)) s') E s) : wpAny (model prog w) A (richCompare .NotEq (.ref x) b) Q E s := by
  have one : wpAny (model prog w) A (tryCompare (.ref x) "__ne__" b) (fun r s' => ∃ v, r = some v ∧ Q v s') E s :=
    tryNe hu X I hne hm hs hf (wpAny_mono h (fun v s' hv => by obtain ⟨r, rfl, hq⟩ := hv; exact ⟨r, rfl, _, rfl, hq⟩) fun _ _ e => e)
  unfold richCompare
  simp only [oneThing_ref]
  rw [cmpInfo_NotEq]
  dsimp only
  refine wpAny_holding (wpAny_bind (wpAny_cRoomFor (Nat.lt_of_succ_lt hu) ?_))
  refine wpAny_bind (I.type.here (wpAny_bind (hb.here ?_)))
  split
  · rename_i q
    have e : subIn K tb (.ref C) = some false := by
      rcases Bool.or_eq_true_iff.mp hn with e | e
      · rw [beq_iff_eq.mp e] at q; simp at q
      · exact beq_iff_eq.mp e
    refine wpAny_bind ((looks_subIn X e).here ?_)
    simp only [Bool.false_eq_true, if_false]
    refine wpAny_bind (wpAny_mono one (fun r s' z => ?_) fun _ _ e => e)
    obtain ⟨v, rfl, hq⟩ := z
    exact wpAny_pure hq
  · refine wpAny_bind (wpAny_pure ?_)
    simp only [Bool.false_eq_true, if_false]
    refine wpAny_bind (wpAny_mono one (fun r s' z => ?_) fun _ _ e => e)
    obtain ⟨v, rfl, hq⟩ := z
    exact wpAny_pure hq
/-- an int on the left: it declines, the reflected method of the right is called -/
theorem cmp_R {op : CmpOp} {t : Tok} {i : Int} {Q : Value → Shared → Prop} (hu : A.units < cLine) (X : K.In s.heap) (I : InstAt s.heap x ox C od) (hsub : subIn K (.ref C) (.type "int") = some false)
    (hone : oneThing? op (.int i t) (.ref x) = none)
    (dec : wpAny (model prog w) A (tryCompare (.int i t) (cmpInfo op).2.1 (.ref x)) (fun r s' => r = none ∧ s' = s) E s)
    (h : wpAny (model prog w) A (tryCompare (.ref x) (cmpInfo op).2.2 (.int i t)) (fun r s' => ∃ v, r = some v ∧ Q v s') E s) : wpAny (model prog w) A (richCompare op (.int i t) (.ref x)) Q E s := by
  unfold richCompare
  rw [hone]
  dsimp only
  refine wpAny_holding (wpAny_bind (wpAny_cRoomFor hu ?_))
  have L1 : Looks (model prog w) s.heap (typeOf (.int i t)) (.type "int") := Looks.of_pure rfl
  refine wpAny_bind (L1.here (wpAny_bind (I.type.here ?_)))
  split
  · refine wpAny_bind ((looks_subIn X hsub).here ?_)
    simp only [Bool.false_eq_true, if_false]
    refine wpAny_bind (wpAny_mono dec (fun r s' z => ?_) fun _ _ e => e)
    obtain ⟨rfl, rfl⟩ := z
    simp only [Bool.not_false, if_true]
    refine wpAny_bind (wpAny_mono h (fun r s' z => ?_) fun _ _ e => e)
    obtain ⟨v, rfl, hq⟩ := z
    exact wpAny_pure hq
  · rename_i q
    exact absurd (by simp) q
end
end Ps

/-! The same over the layer: values of any known type on the right. -/
namespace Ps
open PySem PySem.Spec PyProof.Rows PySem.W L2

section
variable {prog : Program} {w : World} {A : Around} {E : Value → Shared → Prop} {s : Shared} {K : Frag} {x C f : Addr} {ox : Obj} {od : Option Obj} {b : Value} {nm T : String}
/-- a built-in class, as a number's operator looks at it -/
structure Bt (T nm : String) : Prop where
  l : ∃ o, fastLookup T (PySem.dunder nm) = some o
  r : ∃ o, fastLookup T (dunderR nm) = some o
  no : (fastBuiltinMro T).map (fun l => l.all fun v => match v with | .type _ => true | _ => false) = some true
theorem noRef {T : String} {C : Addr} (h : (fastBuiltinMro T).map (fun l => l.all fun v => match v with | .type _ => true | _ => false) = some true) : subIn K (.type T) (.ref C) = some false := by
  show (fastBuiltinMro T).map (·.contains (.ref C)) = some false
  cases e : fastBuiltinMro T with
  | none => rw [e] at h; cases h
  | some l =>
    rw [e] at h
    have h2 : (l.all fun v => match v with | .type _ => true | _ => false) = true := Option.some.inj h
    show some (l.contains (.ref C)) = some false
    congr 1
    rw [Bool.eq_false_iff]
    intro z
    have z2 := List.all_eq_true.mp h2 _ (List.contains_iff_mem.mp z)
    cases z2
theorem bin1_T {Q : Value → Shared → Prop} (X : K.In s.heap) (I : InstAt s.heap x ox C od) (hb : Looks (model prog w) s.heap (typeOf b) (.type T)) (hc : selfFirst K C = true)
    (hs : findIn K (.ref C) (PySem.dunder nm) = some (some (.ref f))) (hf : isFn K (.ref f) = true) {rc : Option Value} (hr : findIn K (.ref C) (dunderR nm) = some rc) (hp : rc = none ∨ ∃ g : Addr, rc = some (.ref g)) (B : Bt T nm)
    (h : wpAny (model prog w) A (call (.ref f) [.ref x, b]) (PySem.W.CmpBack Q) E s) : wpAny (model prog w) A (binaryOp1 nm (.ref x) b) (fun r s' => ∃ v, r = some v ∧ Q v s') E s := by
  obtain ⟨cd, rest, hcd, hm⟩ := ksp_first hc
  have one := ksp_try X I hs hf h
  obtain ⟨⟨fo, h1⟩, ⟨ro, h2⟩, hno⟩ := B
  obtain ⟨hh, g, d, tt, os⟩ := s
  have L1 : Looks (model prog w) hh (typeOf (.ref x)) (.ref C) := I.type
  have L3 : Looks (model prog w) hh (fillsNumberSlot (.ref C) nm) true := fills_K X hcd hm hs
  have L4 : Looks (model prog w) hh (fillsNumberSlot (.type T) nm) ((fo.isSome && !isSeqSlot fo) || (ro.isSome && !isSeqSlot ro)) := ksp_fillsT X h1 h2
  have L5 : Looks (model prog w) hh (isSubtype (.type T) (.ref C)) false := looks_subIn X (noRef hno)
  have L6 : Looks (model prog w) hh (numberSlotInPython (.ref C) nm) true := ksp_inPy X hs hr hp
  have L7 : Looks (model prog w) hh (numberSlotInPython (.type T) nm) false := Looks.of_pure rfl
  have L8 : Looks (model prog w) hh (typeLookup (.type T) (dunderR nm)) ro := looks_findIn X h2
  generalize ((fo.isSome && !isSeqSlot fo) || (ro.isSome && !isSeqSlot ro)) = right at L4
  have hne : (Value.ref C == Value.type T) = false := Bool.eq_false_iff.mpr fun q => by cases beq_iff_eq.mp q
  unfold binaryOp1
  refine wpAny_bind (L1.at (wpAny_bind (hb.at (wpAny_bind (L3.at ?_)))))
  simp only [hne, Bool.false_eq_true, if_false]
  cases right
  · ksp_lk
    refine wpAny_mono one (fun r s' hr' => ?_) fun _ _ e => e
    obtain ⟨v, rfl, hq⟩ := hr'
    ksp_lk
    exact ⟨_, rfl, hq⟩
  · ksp_lk
    refine wpAny_mono one (fun r s' hr' => ?_) fun _ _ e => e
    obtain ⟨v, rfl, hq⟩ := hr'
    ksp_lk
    exact ⟨_, rfl, hq⟩
theorem bin1_K {Q : Value → Shared → Prop} (X : K.In s.heap) (I : InstAt s.heap x ox C od) (hb : Looks (model prog w) s.heap (typeOf b) (.ref C)) (hc : selfFirst K C = true)
    (hs : findIn K (.ref C) (PySem.dunder nm) = some (some (.ref f))) (hf : isFn K (.ref f) = true)
    (h : wpAny (model prog w) A (call (.ref f) [.ref x, b]) (PySem.W.CmpBack Q) E s) : wpAny (model prog w) A (binaryOp1 nm (.ref x) b) (fun r s' => ∃ v, r = some v ∧ Q v s') E s := by
  obtain ⟨cd, rest, hcd, hm⟩ := ksp_first hc
  have one := ksp_try X I hs hf h
  unfold binaryOp1
  refine wpAny_bind (I.type.here (wpAny_bind (hb.here (wpAny_bind ((fills_K X hcd hm hs).here ?_)))))
  simp only [beq_self_eq_true, if_true]
  refine wpAny_bind (wpAny_pure ?_)
  simp only [Bool.and_false, Bool.false_eq_true, if_false, Bool.false_and]
  refine wpAny_bind (wpAny_pure ?_)
  simp only [Bool.false_eq_true, if_false]
  refine wpAny_bind (m := tryMethod (.ref x) _ b) (wpAny_mono one (fun r s' hr' => ?_) fun _ _ e => e)
  obtain ⟨v, rfl, hq⟩ := hr'
  exact wpAny_pure ⟨_, rfl, hq⟩
theorem bin_of1 {op : Operator} {a : Value} {Q : Value → Shared → Prop} (h : wpAny (model prog w) A (binaryOp1 op.info.2 a b) (fun r s' => ∃ v, r = some v ∧ Q v s') E s) : wpAny (model prog w) A (binaryOp op a b) Q E s := by
  rcases hi : op.info with ⟨sym, nm'⟩
  rw [hi] at h
  simp only [binaryOp, hi]
  refine wpAny_holding (wpAny_bind (wpAny_mono h (fun r s' z => ?_) fun _ _ e => e))
  obtain ⟨v, rfl, hq⟩ := z
  exact wpAny_pure hq
/-- no in-place method along the class and object -/
structure NoI (K : Frag) (C : Addr) (nm : String) : Prop where
  cd : ∃ cd, clsIn K C = some cd ∧ cd.mro = [.ref C, .type "object"]
  l : findIn K (.ref C) (dunderI nm) = some none
  o : fastLookup "object" (dunderI nm) = some none
theorem fillsI_no {M : Model} {h : Heap} {add : Bool} (X : K.In h) (N : NoI K C nm) : Looks M h (fillsInplaceSlot (.ref C) nm add) false := by
  obtain ⟨⟨cd, hc, hm⟩, hl, ho⟩ := N
  intro A Q E s k q
  have Lm : Looks M h (mroOf (.ref C)) cd.mro := (looks_clsIn X hc).andThen (f := fun cd => pure cd.mro) .now
  have Lm' := Lm.keeps k
  obtain ⟨hh, g, d, tt, os⟩ := s
  have X' : K.In hh := X.keeps k
  have L1 : Looks M hh (typeLookup (.ref C) (dunderI nm)) none := looks_findIn X' hl
  have L2 : Looks M hh (typeLookup (.type "object") (dunderI nm)) none := looks_findIn X' (t := .type "object") ho
  unfold fillsInplaceSlot
  refine wpAny_bind (Lm'.at ?_)
  rw [hm, List.anyM_cons]
  refine wpAny_bind ?_
  repeat lk
  first
    | exact q
    | (rw [List.anyM_cons]; refine wpAny_bind ?_; repeat lk; first | exact q | (rw [List.anyM_nil]; exact wpAny_pure q))
theorem ip_of1 {op : Operator} {Q : Value → Shared → Prop} (X : K.In s.heap) (I : InstAt s.heap x ox C od) (N : NoI K C op.info.2) (h : wpAny (model prog w) A (binaryOp1 op.info.2 (.ref x) b) (fun r s' => ∃ v, r = some v ∧ Q v s') E s) : wpAny (model prog w) A (inplaceOp op (.ref x) b) Q E s := by
  unfold inplaceOp
  refine wpAny_holding ?_
  refine wpAny_bind (I.type.here (wpAny_bind ((fillsI_no X N).here ?_)))
  simp only [Bool.false_eq_true, if_false]
  refine wpAny_bind (wpAny_mono h (fun r s' z => ?_) fun _ _ e => e)
  obtain ⟨v, rfl, hq⟩ := z
  exact wpAny_pure hq
end
end Ps

/-! Rules: operators and comparisons of own instances with values of any known type. -/
namespace Ps
open PySem PySem.Spec PyProof.Rows PySem.W L2

section
variable {Z : Cz} {X : Cx} {CX : CXT} {k : Nat} {C : Addr} {ps : List Str} {sp : Sp} {E : XK}
/-- a value that stands right of an operator -/
def Sd (K : Frag) (C : Addr) (nm : String) (H : Hp) (y : V) : Prop := ∃ t, TyX K H y t ∧ (t = .ref C ∨ ∃ T, t = .type T ∧ Bt T nm)
def rBin (K : Frag) (C : Addr) (nm : String) (sp : Sp) (E : XK) : R2 := fun x y H Q => InsC C H x ∧ Sd K C nm H y ∧ sp [x, y] H Q E
theorem bin1_any {nm : String} {f : Addr} {fd : FuncData} {rc : Option Value} {pins : List (Addr × Obj)} {s : Shared} {σ : L2.St} {H : Hp} {x y : V} {v u : Value} {Q : VK} (O : OwnOp X.K C f (PySem.dunder nm)) (hrc : findIn X.K (.ref C) (dunderR nm) = some rc) (hp : rc = none ∨ ∃ g : Addr, rc = some (.ref g))
    (G : FnOk X.prog X.w X.K X.mg X.base CX k f fd ps sp) (hr : Room k X.A) (hb : Binds X.K fd ps []) (hx : Passes CX X E) (I : L2.Inv X pins σ H s) (rx : RelV x v) (ry : RelV y u) (h : rBin X.K C nm sp E x y H Q) :
    ∃ a ox od, v = .ref a ∧ InstAt s.heap a ox C od ∧ wpAny (model X.prog X.w) X.A (binaryOp1 nm v u) (fun r s' => ∃ z, r = some z ∧ EP X pins σ Q z s') X.xe s := by
  obtain ⟨⟨a, dx, fs, rfl, ha⟩, ⟨t, ty, ht⟩, h⟩ := h
  cases (show v = Value.ref a from rx)
  obtain ⟨mA, J0, _⟩ := ins_get I.hok ha
  obtain ⟨od, J, _⟩ := J0.look
  obtain ⟨P, Zk, p, _⟩ := kit_of I ry ty
  have hl := Zk.ty (model X.prog X.w) s.heap I.kIn p
  have hcall := wpAny_mono (run_fn (us := [.ref a, u]) (vs := [.ref a, y]) (dvs := []) G hr hb .nil hx I (.cons rfl (.cons ry .nil)) h) (fun _ _ z => cmpBack z) fun _ _ z => z
  rcases ht with rfl | ⟨T, rfl, B⟩
  · exact ⟨a, _, _, rfl, J, bin1_K I.kIn J hl O.sf O.fn O.isf hcall⟩
  · exact ⟨a, _, _, rfl, J, bin1_T I.kIn J hl O.sf O.fn O.isf hrc hp B hcall⟩
/-- what is known of the reflected method of a class -/
structure Rfl (K : Frag) (C : Addr) (nm : String) : Prop where
  r : ∃ rc, findIn K (.ref C) (dunderR nm) = some rc ∧ (rc = none ∨ ∃ g : Addr, rc = some (.ref g))
theorem op_bin {op : Operator} (c : CalS Z CX k C (PySem.dunder op.info.2) ps sp) (N : Rfl Z.K C op.info.2) (hr : Room k X.A) (hx : Passes CX X E) (z : InZ Z X := by exact ⟨rfl, rfl, rfl, rfl, rfl⟩) : OpR X (binaryOp op) (rBin Z.K C op.info.2 sp E) := by
  obtain ⟨f, fd, G, h1, h2⟩ := c
  obtain ⟨rc, hrc, hp⟩ := N.r
  have z' := z
  obtain ⟨e1, e2, e3, e4, e5⟩ := z
  intro pins s σ H x y v u Q I rx ry h
  obtain ⟨a, ox, od, rfl, J, w1⟩ := bin1_any (X := X) (by rw [e3]; exact h1) (by rw [e3]; exact hrc) hp (z'.ok G) hr (by rw [e3]; exact h2) hx I rx ry (by rw [e3]; exact h)
  exact bin_of1 w1
theorem ip_bin {op : Operator} (c : CalS Z CX k C (PySem.dunder op.info.2) ps sp) (N : Rfl Z.K C op.info.2) (O : NoI Z.K C op.info.2) (hr : Room k X.A) (hx : Passes CX X E) (z : InZ Z X := by exact ⟨rfl, rfl, rfl, rfl, rfl⟩) : PIp X op (rBin Z.K C op.info.2 sp E) := by
  obtain ⟨f, fd, G, h1, h2⟩ := c
  obtain ⟨rc, hrc, hp⟩ := N.r
  have z' := z
  obtain ⟨e1, e2, e3, e4, e5⟩ := z
  intro pins s σ H x y v u Q I rx ry h
  obtain ⟨a, ox, od, rfl, J, w1⟩ := bin1_any (X := X) (by rw [e3]; exact h1) (by rw [e3]; exact hrc) hp (z'.ok G) hr (by rw [e3]; exact h2) hx I rx ry (by rw [e3]; exact h)
  exact ip_of1 I.kIn J (by rw [e3]; exact O) w1
/-! ### comparisons -/
def Nf (K : Frag) (C : Addr) (H : Hp) (y : V) : Prop := ∃ t, TyX K H y t ∧ notFirst K C t = true
def rCmp (K : Frag) (C : Addr) (sp : Sp) (E : XK) : R2 := fun x y H Q => InsC C H x ∧ Nf K C H y ∧ sp [x, y] H Q E
theorem op_cmp {op : CmpOp} (c : CalS Z CX k C (cmpInfo op).2.1 ps sp) (hr : Room k X.A) (hx : Passes CX X E) (z : InZ Z X := by exact ⟨rfl, rfl, rfl, rfl, rfl⟩) (hop : ∀ a b, compareOp op a b = richCompare op a b := by intro _ _; rfl) : OpR X (compareOp op) (rCmp Z.K C sp E) := by
  obtain ⟨f, fd, G, h1, h2⟩ := c
  have z' := z
  obtain ⟨e1, e2, e3, e4, e5⟩ := z
  intro pins s σ H x y v u Q I rx ry h
  obtain ⟨⟨a, dx, fs, rfl, ha⟩, ⟨t, ty, ht⟩, h⟩ := h
  cases (show v = Value.ref a from rx)
  rw [← e3] at ty ht h1
  obtain ⟨mA, J0, _⟩ := ins_get I.hok ha
  obtain ⟨od, J, _⟩ := J0.look
  obtain ⟨P, Zk, p, _⟩ := kit_of I ry ty
  obtain ⟨m, hF⟩ := I.fr
  rw [hop]
  refine cmp_K hr.units0 hF I.ok.mod.kin J (Zk.ty (model X.prog X.w) s.heap I.kIn p) ht h1.fn h1.isf ?_
  exact wpAny_mono (run_fn (us := [.ref a, u]) (vs := [.ref a, y]) (dvs := []) (z'.ok G) hr (by rw [e3]; exact h2) .nil hx I (.cons rfl (.cons ry .nil)) h) (fun _ _ z => cmpBack z) fun _ _ z => z
/-- what is known of != -/
structure NeT (K : Frag) (C : Addr) : Prop where
  ne : findIn K (.ref C) "__ne__" = some (some (.builtin "object.__ne__"))
  m : mroIn K C (.type "object") = some true
def rNe (K : Frag) (C : Addr) (sp : Sp) (E : XK) : R2 := fun x y H Q => InsC C H x ∧ Nf K C H y ∧ sp [x, y] H (fun v H' => ∃ b, v = .bl b ∧ Q (.bl (!b)) H') E
theorem ne_back {pins : List (Addr × Obj)} {σ : L2.St} {Q : VK} {v : Value} {s : Shared} (h : EP X pins σ (fun v H' => ∃ b, v = .bl b ∧ Q (.bl (!b)) H') v s) : ∃ r, v = .bool r ∧ EP X pins σ Q (.bool (!r)) s := by
  obtain ⟨v', H', I, r, b, rfl, q⟩ := h
  cases (show v = Value.bool b from r)
  exact ⟨b, rfl, .bl (!b), H', I, rfl, q⟩
theorem op_ne_ (c : CalS Z CX k C "__eq__" ps sp) (N : NeT Z.K C) (hr : Room (k + 1) X.A) (hx : Passes CX X E) (z : InZ Z X := by exact ⟨rfl, rfl, rfl, rfl, rfl⟩) : OpR X (compareOp .NotEq) (rNe Z.K C sp E) := by
  obtain ⟨f, fd, G, h1, h2⟩ := c
  have z' := z
  obtain ⟨e1, e2, e3, e4, e5⟩ := z
  intro pins s σ H x y v u Q I rx ry h
  obtain ⟨⟨a, dx, fs, rfl, ha⟩, ⟨t, ty, ht⟩, h⟩ := h
  cases (show v = Value.ref a from rx)
  rw [← e3] at ty ht h1 N
  obtain ⟨mA, J0, _⟩ := ins_get I.hok ha
  obtain ⟨od, J, _⟩ := J0.look
  obtain ⟨P, Zk, p, _⟩ := kit_of I ry ty
  show wpAny _ _ (richCompare .NotEq (.ref a) u) _ _ _
  refine cmp_ne (hu_of hr) I.kIn J (Zk.ty (model X.prog X.w) s.heap I.kIn p) ht N.ne N.m h1.fn h1.isf ?_
  exact wpAny_mono (run_fn1 (us := [.ref a, u]) (vs := [.ref a, y]) (z'.ok G) hr (by rw [e3]; exact h2) hx I (.cons rfl (.cons ry .nil)) h) (fun _ _ z => ne_back z) fun _ _ z => z
/-! an int on the left -/
def rCmpI (C : Addr) (sp : Sp) (E : XK) : R2 := fun x y H Q => (∃ i, x = .int i) ∧ InsC C H y ∧ sp [y, x] H Q E
theorem one_int {op : CmpOp} {i : Int} {t : Tok} {x : Addr} : oneThing? op (.int i t) (.ref x) = none := by cases op <;> rfl
theorem op_cmpI {op : CmpOp} {id : String} (c : CalS Z CX k C (cmpInfo op).2.2 ps sp) (hsub : subIn Z.K (.ref C) (.type "int") = some false) (sl : Slot "int" (cmpInfo op).2.1 id)
    (hd : ∀ {s : Shared} {x C dx : Addr} {t : Tok} {i : Int} {Q : Value → Shared → Prop}, s.heap.get? x = some (instObj C dx) → Q .notImplemented s → wpAny (model X.prog X.w) X.A (call (.builtin id) [.int i t, .ref x]) Q X.xe s)
    (hr : Room k X.A) (hx : Passes CX X E) (z : InZ Z X := by exact ⟨rfl, rfl, rfl, rfl, rfl⟩) (hop : ∀ a b, compareOp op a b = richCompare op a b := by intro _ _; rfl) : OpR X (compareOp op) (rCmpI C sp E) := by
  obtain ⟨f, fd, G, h1, h2⟩ := c
  have z' := z
  obtain ⟨e1, e2, e3, e4, e5⟩ := z
  intro pins s σ H x y v u Q I rx ry h
  obtain ⟨⟨i, rfl⟩, ⟨a, dx, fs, rfl, ha⟩, h⟩ := h
  cases (show u = Value.ref a from ry)
  obtain ⟨t, e⟩ := (show ∃ t, v = Value.int i t from rx)
  cases e
  rw [← e3] at hsub h1
  obtain ⟨mA, J0, _⟩ := ins_get I.hok ha
  obtain ⟨_, _, _, hget, _⟩ := (show ObjOk X.prog X.w H s.heap a (.ins C dx fs) from I.hok a _ ha)
  obtain ⟨od, J, _⟩ := J0.look
  rw [hop]
  refine cmp_R hr.units0 I.kIn J hsub one_int (wpAny_tryCompare_declines (typeIs_int _ i t) sl (hd hget ⟨rfl, rfl, rfl⟩)) ?_
  unfold tryCompare
  refine wpAny_bind (ifBound_K I.kIn J h1.fn h1.isf (wpAny_mono (run_fn (us := [.ref a, .int i t]) (vs := [.ref a, .int i]) (dvs := []) (z'.ok G) hr (by rw [e3]; exact h2) .nil hx I (.cons rfl (.cons ⟨t, rfl⟩ .nil)) h) (fun v s' z => ?_) fun _ _ z => z))
  have z2 := cmpBack z
  cases v <;> first | exact False.elim z2 | exact wpAny_pure ⟨_, rfl, z⟩
def rNeI (C : Addr) (sp : Sp) (E : XK) : R2 := fun x y H Q => (∃ i, x = .int i) ∧ InsC C H y ∧ sp [y, x] H (fun v H' => ∃ b, v = .bl b ∧ Q (.bl (!b)) H') E
theorem op_neI (c : CalS Z CX k C "__eq__" ps sp) (N : NeT Z.K C) (hsub : subIn Z.K (.ref C) (.type "int") = some false) (hr : Room (k + 1) X.A) (hx : Passes CX X E) (z : InZ Z X := by exact ⟨rfl, rfl, rfl, rfl, rfl⟩) : OpR X (compareOp .NotEq) (rNeI C sp E) := by
  obtain ⟨f, fd, G, h1, h2⟩ := c
  have z' := z
  obtain ⟨e1, e2, e3, e4, e5⟩ := z
  intro pins s σ H x y v u Q I rx ry h
  obtain ⟨⟨i, rfl⟩, ⟨a, dx, fs, rfl, ha⟩, h⟩ := h
  cases (show u = Value.ref a from ry)
  obtain ⟨t, e⟩ := (show ∃ t, v = Value.int i t from rx)
  cases e
  rw [← e3] at hsub h1 N
  obtain ⟨mA, J0, _⟩ := ins_get I.hok ha
  obtain ⟨_, _, _, hget, _⟩ := (show ObjOk X.prog X.w H s.heap a (.ins C dx fs) from I.hok a _ ha)
  obtain ⟨od, J, _⟩ := J0.look
  show wpAny _ _ (richCompare .NotEq (.int i t) (.ref a)) _ _ _
  refine cmp_R hr.units0 I.kIn J hsub one_int (wpAny_tryCompare_declines (typeIs_int _ i t) F.slot_int_ne (dec_ne hget ⟨rfl, rfl, rfl⟩)) ?_
  show wpAny _ _ (tryCompare (.ref a) "__ne__" (.int i t)) _ _ _
  refine tryNe (hu_of hr) I.kIn J N.ne N.m h1.fn h1.isf ?_
  refine wpAny_mono (run_fn1 (us := [.ref a, .int i t]) (vs := [.ref a, .int i]) (z'.ok G) hr (by rw [e3]; exact h2) hx I (.cons rfl (.cons ⟨t, rfl⟩ .nil)) h) (fun _ _ z => ?_) fun _ _ z => z
  obtain ⟨r, rfl, q⟩ := ne_back z
  exact ⟨r, rfl, _, rfl, q⟩
end
/-! ### facts of built-in classes -/
theorem nf_ty {K : Frag} {C : Addr} {T : String} (h : (fastBuiltinMro T).map (fun l => l.all fun v => match v with | .type _ => true | _ => false) = some true) : notFirst K C (.type T) = true := by
  unfold notFirst
  rw [noRef h]
  simp
theorem nf_own {K : Frag} {C : Addr} : notFirst K C (.ref C) = true := by simp [notFirst]
theorem nf_int {K : Frag} {C : Addr} : notFirst K C (.type "int") = true := nf_ty (by decide +kernel)
theorem nf_bool {K : Frag} {C : Addr} : notFirst K C (.type "bool") = true := nf_ty (by decide +kernel)
theorem nf_str {K : Frag} {C : Addr} : notFirst K C (.type "str") = true := nf_ty (by decide +kernel)
theorem nf_non {K : Frag} {C : Addr} : notFirst K C (.type "NoneType") = true := nf_ty (by decide +kernel)
theorem nf_flt {K : Frag} {C : Addr} : notFirst K C (.type "float") = true := nf_ty (by decide +kernel)
theorem nf_list {K : Frag} {C : Addr} : notFirst K C (.type "list") = true := nf_ty (by decide +kernel)
theorem nf_tuple {K : Frag} {C : Addr} : notFirst K C (.type "tuple") = true := nf_ty (by decide +kernel)
theorem nf_dict {K : Frag} {C : Addr} : notFirst K C (.type "dict") = true := nf_ty (by decide +kernel)
end Ps

/-! d[k] = e as a target; keyword-only defaults behind the top; defs with **kw, called by keywords. -/
namespace Ps
open PySem PySem.Spec PyProof.Rows PySem.W L2 He
section
variable {X : Cx}
def rSetD : V → V → V → Hp → (Hp → Prop) → Prop := fun o i v H Q => ∃ a H', o = .ref a ∧ DPut H a i v H' ∧ Q H'
theorem set_dct (hu : X.A.units + 1 < cLine) : PSet X rSetD := by
  intro pins s σ H o i v ov iv u Q I ro ri rv h
  obtain ⟨a, H', rfl, g, q⟩ := h
  cases ro
  exact d_setItem hu I g ri rv fun s' I' => ⟨H', I', q⟩
end
/-! ### keyword-only defaults -/
def relVB : V → Value → Bool
  | .non, .none => true
  | .bl b, .bool c => b == c
  | .int i, .int j _ => decide (i = j)
  | .str x, .str y _ => decide (x = y)
  | _, _ => false
theorem relVB_ok {v : V} {u : Value} (h : relVB v u = true) : RelV v u := by
  unfold relVB at h
  split at h
  · exact rfl
  · rw [eq_of_beq h]; exact rfl
  · rename_i i j t
    have := of_decide_eq_true h
    subst this
    exact ⟨_, rfl⟩
  · rename_i x y t
    have := of_decide_eq_true h
    subst this
    exact ⟨_, rfl⟩
  · cases h
def kwdVB (K : Frag) (kV : Value) (kws : List (Str × V)) : Bool := match kV with
  | .ref D => kws.all fun q => (match nsIn K D q.1 with
    | some (some u) => relVB q.2 u
    | _ => false)
  | _ => false
def kwdB (K : Frag) (f : Addr) (kws : List (Str × V)) : Bool := match K.lookup f with
  | some ⟨_, _, .func fd, _⟩ => kwdVB K fd.kwdefaults kws
  | _ => false
theorem FunD.withKw {K : Frag} {x qual : Str} {params : Arguments} {body : List Stmt} {scope : Scope} {dvs : List V} {kws : List (Str × V)} {f : Addr} {fd : FuncData} (F : FunD K x qual params body scope dvs [] f fd) (c : kwdB K f kws = true) : FunD K x qual params body scope dvs kws f fd := by
  obtain ⟨⟨oc, od, dV, kV, doc, pm, an, cdv, ct, osl, e, lk, hcd, hD, _⟩, kp⟩ := F
  refine ⟨⟨oc, od, dV, kV, doc, pm, an, cdv, ct, osl, e, lk, hcd, hD, ?_⟩, kp⟩
  unfold kwdB at c
  rw [lk, e] at c
  have c : kwdVB K kV kws = true := c
  unfold kwdVB at c
  cases kV with
  | ref D =>
    refine .inr ⟨D, rfl, fun q hq => ?_⟩
    have := List.all_eq_true.mp c q hq
    split at this
    · rename_i u hu
      exact ⟨u, hu, relVB_ok this⟩
    · cases this
  | _ => cases c
/-! ### **kw -/
section
variable {prog : Program} {w : World} {A : Around} {E : Value → Shared → Prop} {s : Shared}
theorem nsSet_pairs {d : Addr} {kvs : List (Key × Value)} {name : Str} {v : Value} {Q : Unit → Shared → Prop} (hm : s.heap.DictOf (mixKind prog w) d kvs) (hnk : (Sum.inr name : Key) ∉ kvs.map (·.1))
    (hQ : ∀ h', h'.DictOf (mixKind prog w) d (kvs ++ [(Sum.inr name, v)]) → Heap.SameBut d s.heap h' → Q () { s with heap := h', toks := s.toks + 1 }) :
    wpAny (model prog w) A (nsSet d name v) Q E s := by
  obtain ⟨o, es, ep, ho, hc, hd, hk, hp, hnd⟩ := hm
  have hany : es.any (·.refKey) = false := by
    rw [Array.any_eq_false']
    intro e he
    obtain ⟨k', hk', _⟩ := hk e he
    rcases keyIs_shape hk' with ⟨i, t, _, h⟩ | ⟨x, t, _, h⟩ <;> simp [DictEntry.refKey, h]
  have hidx : es.findIdx? (·.key.isStr name) = none := by
    rw [Array.findIdx?_eq_none_iff]
    intro e he
    refine Bool.eq_false_iff.mpr fun hs => ?_
    obtain ⟨k', hk', _⟩ := hk e he
    rcases keyIs_shape hk' with ⟨i, t, _, h⟩ | ⟨x, t, hx, h⟩
    · rw [h] at hs
      cases hs
    · rw [h] at hs
      have hxn : x = name := by
        have : (x == name) = true := hs
        exact eq_of_beq this
      subst hxn
      obtain ⟨i, hi, hie⟩ := Array.mem_iff_getElem.mp he
      have hi' : i < kvs.length := by
        have := hp.length
        simp at this
        omega
      obtain ⟨hkey, _⟩ := hp.get? (i := i) (e := e) (k := kvs[i].1) (v := kvs[i].2) (by rw [Array.getElem?_toList, Array.getElem?_eq_getElem hi, hie]) (List.getElem?_eq_getElem hi')
      have e2 : k' = kvs[i].1 := (mixKind prog w).inj _ _ _ hk' hkey
      exact hnk (List.mem_map.mpr ⟨kvs[i], List.getElem_mem hi', by rw [← e2, hx]⟩)
  unfold nsSet strHash
  refine wpAny_bind (wpAny_bind (wpAny_askSetting (wpAny_pure ?_)))
  refine wpAny_bind (wpAny_mkText ?_)
  refine wpAny_bind (wpAny_loadPart (o := o) ho ?_)
  simp only [hd, aRefKeyMayBeTheName_eq, aRefKeyMayBeTheNameByArray, hany, Bool.and_false, Bool.false_eq_true, if_false]
  refine wpAny_updatePart ho (hQ _ ?_ (Heap.SameBut.update ..))
  have hkey : (mixKind prog w).is (Sum.inr name) (.str name s.toks) = true := by
    show Value.isStrOf name (.str name s.toks) = true
    simp [Value.isStrOf]
  have hput : Obj.putName name (hashStr w name) (.str name s.toks) v o = o.mapDictKeys fun es => es.push ⟨hashStr w name, .str name s.toks, v⟩ := by
    obtain ⟨c, dd, dt, sl⟩ := o
    subst hd
    simp only [Obj.putName_eq, Obj.putNameByArray, hidx]
    rfl
  refine ⟨_, _, ep + 1, ?_, ?_, Obj.data_mapDictKeys hd fun es => es.push ⟨hashStr w name, .str name s.toks, v⟩, ?_, ?_, ?_⟩
  · exact (Heap.get?_update_self _ ho (by show (Obj.putName name (hashStr w name) (.str name s.toks) v o).isFreed = false; rw [hput]; exact Obj.isFreed_of_dict (Obj.data_mapDictKeys hd _))).trans (congrArg some hput)
  · exact hc.mapDictKeys _
  · exact hk.push hkey _
  · have := hp.append hkey (hashStr w name) v
    obtain ⟨l⟩ := es
    simpa using this
  · rw [List.map_append, List.nodup_append]
    refine ⟨hnd, by simp, ?_⟩
    intro a ha b hb
    simp only [List.map_cons, List.map_nil, List.mem_singleton] at hb
    subst hb
    exact fun e => hnk (e ▸ ha)
/-- the keywords' pairs into the new dict -/
theorem kwAll_pairs {d : Addr} : ∀ (kw : List (Str × Value)) (kvs : List (Key × Value)) (s : Shared) {Q : PUnit → Shared → Prop}, s.heap.DictOf (mixKind prog w) d kvs → List.Nodup ((kvs ++ kw.map fun p : Str × Value => ((Sum.inr p.1 : Key), p.2)).map (fun p : Key × Value => p.1)) →
    (∀ h' t, h'.DictOf (mixKind prog w) d (kvs ++ kw.map fun p => (Sum.inr p.1, p.2)) → Heap.SameBut d s.heap h' → Q PUnit.unit { s with heap := h', toks := t }) →
    wpAny (model prog w) A (forIn kw PUnit.unit fun x _ => do nsSet d x.1 x.2; pure (ForInStep.yield PUnit.unit)) Q E s
  | [], kvs, s, Q, hm, _, hQ => by
    rw [List.forIn_nil]
    refine wpAny_pure ?_
    have := hQ s.heap s.toks (by simpa using hm) (Heap.SameBut.refl _ _)
    exact this
  | (k, v) :: r, kvs, s, Q, hm, hnd, hQ => by
    rw [List.forIn_cons]
    have e : kvs ++ ((k, v) :: r).map (fun p : Str × Value => ((Sum.inr p.1 : Key), p.2)) = (kvs ++ [(Sum.inr k, v)]) ++ r.map fun p => (Sum.inr p.1, p.2) := by simp
    rw [e] at hnd hQ
    have hk : (Sum.inr k : Key) ∉ kvs.map (·.1) := by
      rw [List.map_append, List.map_append, List.append_assoc, List.nodup_append] at hnd
      intro h
      exact hnd.2.2 _ h _ (by simp) rfl
    refine wpAny_bind (wpAny_bind (nsSet_pairs hm hk fun h' dd hs => wpAny_pure ?_))
    refine kwAll_pairs r (kvs ++ [(Sum.inr k, v)]) _ dd hnd fun h2 t2 dd2 hs2 => ?_
    exact hQ h2 t2 dd2 (hs.trans hs2)
end
/-- a def called by keywords ks behind one positional value -/
def FnKw (P : Program) (w : World) (K : Frag) (mg : Str → Option Value) (base : Heap) (CX : CXT) (k : Nat) (f : Addr) (ks : List Str) (sp : V → List V → Hp → VK → XK → Prop) : Prop :=
  ∀ (A : Around) (outer : List Env) (s : Shared) (H : Hp) (u : Value) (ws : List Value) (v : V) (zs : List V) (Q : VK) (E : XK), Room k A → Env0 P w K mg base A outer s H → RelV v u → Vals zs ws → ws.length = ks.length → sp v zs H Q E →
    codeAny (model P w) A (.call (.ref f) ⟨[u], ks.zip ws⟩) (CR CX outer P w H s Q E) s
def kwK (ks : List Str) (zs : List V) : List (Key × V) := (ks.zip zs).map fun p => (Sum.inr p.1, p.2)
theorem kw_rel : ∀ {ks : List Str} {zs : List V} {ws : List Value}, Vals zs ws → KV (kwK ks zs) ((ks.zip ws).map fun p => ((Sum.inr p.1 : Key), p.2))
  | [], _, _, _ => by unfold kwK; simp; exact .nil
  | _ :: _, _, _, .nil => by unfold kwK; simp; exact .nil
  | k :: ks, _, _, .cons r rs => .cons ⟨rfl, r⟩ (kw_rel rs)
section
variable {CX : CXT} {P : Program} {w : World} {K : Frag} {mg : Str → Option Value} {base : Heap} {k : Nat} {f : Addr} {name qual : Str} {params : Arguments} {body : List Stmt} {scope : Scope} {dV kV doc pm cdv ct oc : Value} {an od : Option Addr}
  {osl : Array (Option Value)} {N ks : List Str} {p1 pd : Str} {sp : Sp}
/-- def f(a, **d) -/
theorem fn_kw (lk : K.lookup f = some ⟨oc, od, .func (PySem.W.fnOf name qual params body scope dV kV doc pm an cdv ct), osl⟩) (hcd : PySem.W.codeIn K cdv qual = true) (S : FnScope N [p1, pd] scope) (hCX : StX.CXUp CX) (hnd : ks.Nodup)
    (hb : ∀ (u : Value) (ws : List Value), ws.length = ks.length → bindArgs (PySem.W.fnOf name qual params body scope dV kV doc pm an cdv ct) ⟨[u], ks.zip ws⟩ =
      ((alloc ({ cls := .type "dict", data := .dict #[] } : Obj) : Sem Addr) >>= fun d => (forIn (ks.zip ws) PUnit.unit fun x _ => do nsSet d x.1 x.2; pure (ForInStep.yield PUnit.unit)) >>= fun _ => pure [(p1, u), (pd, Value.ref d)]))
    (hbody : ∀ (A : Around) (outer : List Env) (s : Shared) (H : Hp) (vs : List V) (Q : VK) (E : XK), Room k (A.deeper (envOfC qual scope s.heap.objs.size f cdv)) → sp vs H Q E →
      ∃ t, PSs (cxOf CX P w K mg base N qual scope f cdv A outer s H E) body t ∧ t { nx := fun _ H' => Q .non H', rt := Q } (start N vs) H) :
    FnKw P w K mg base CX (k + 1) f ks (fun v zs H Q E => ks.length ≤ 100 ∧ ∀ d, H d = none → sp [v, .ref d] (upd H d (.dK (kwK ks zs))) Q E) := by
  intro A outer s H u ws v zs Q E hr e0 rv r hl hsp
  obtain ⟨h100, hq⟩ := hsp
  have hn : H s.heap.objs.size = Option.none := e0.hok.fresh (Nat.le_refl _)
  refine StX.run_bnd lk hcd S hr e0 (G := fun xs H2 => ∃ d, H d = Option.none ∧ xs = [v, V.ref d] ∧ H2 = upd H d (.dK (kwK ks zs))) (fun A' Ex Q' h => ?_) fun s2 H2 xs ⟨d, hd, ex, eH⟩ hr' => ?_
  · rw [hb u ws hl]
    refine wpAny_bind (wpAny_alloc ?_)
    have hmap : ((ks.zip ws).map fun p => ((Sum.inr p.1 : Key), p.2)).map (·.1) = ks.map Sum.inr := by
      rw [List.map_map]
      have : ((fun x : Key × Value => x.1) ∘ fun p : Str × Value => ((Sum.inr p.1 : Key), p.2)) = (Sum.inr ∘ Prod.fst) := rfl
      rw [this, ← List.map_map, List.map_fst_zip (by omega)]
    have hnd' : (([] : List (Key × Value)) ++ (ks.zip ws).map fun p => ((Sum.inr p.1 : Key), p.2)).map (·.1) |>.Nodup := by
      rw [List.nil_append, hmap]
      exact List.Pairwise.map _ (fun a b hab he => hab (Sum.inr.inj he)) hnd
    refine wpAny_bind (kwAll_pairs (ks.zip ws) [] _ (Heap.DictOf.new s.heap) hnd' fun h' t dd hs => wpAny_pure ?_)
    rw [List.nil_append] at dd
    have kp : ∀ b x, s.heap.get? b = some x → h'.get? b = some x := fun b x e => (hs.2 b (Nat.ne_of_lt (Heap.lt_size e))).trans (Heap.get?_push_of_some _ e)
    have hz : (kwK ks zs).length ≤ sizeLine := by
      unfold kwK
      rw [List.length_map, List.length_zip]
      exact Nat.le_trans (Nat.min_le_left _ _) (Nat.le_trans h100 (by decide))
    have hsm : (s.heap.objs.size == sysModules) = false := beq_eq_false_iff_ne.mpr (Ne.symm (Nat.ne_of_lt (StX.env0_big e0)))
    have new : ObjOk P w (upd H s.heap.objs.size (.dK (kwK ks zs))) h' s.heap.objs.size (.dK (kwK ks zs)) := dk_new hz hsm (kw_rel r) dd
    have un : Un (frs outer) [] H (upd H s.heap.objs.size (.dK (kwK ks zs))) s.heap h' := Un.laid kp (Nat.le_refl _) hn
    have e2 : Env0 P w K mg base A outer { s with heap := h', toks := t } (upd H s.heap.objs.size (.dK (kwK ks zs))) := by
      refine ⟨e0.frames, e0.mod, fun b x e => ⟨kp b x (e0.bs b x e).1, ?_⟩, ?_, Heap.FunFrames.of_keeps (fun b x e _ => ⟨x, kp b x e, rfl⟩) e0.funs, fun b hb => ?_, e0.hok.laid kp (Nat.le_refl _) new, e0.bare⟩
      · rw [upd_ne (Nat.ne_of_lt (Heap.lt_size (e0.bs b x e).1))]
        exact (e0.bs b x e).2
      · show base.objs.size ≤ h'.objs.size
        obtain ⟨q, _, _, hq, _⟩ := dd
        exact Nat.le_trans e0.bsz (Nat.le_of_lt (Heap.lt_size hq))
      · obtain ⟨_, x, hx, _⟩ := e0.funs.mem hb
        rw [upd_ne (Nat.ne_of_lt (Heap.lt_size hx))]
        exact e0.frf b hb
    exact h _ _ [v, V.ref s.heap.objs.size] [u, Value.ref s.heap.objs.size] e2 un rfl (fun e s' => hCX outer s H _ _ E e s' un kp rfl) (.cons rv (.cons rfl .nil)) rfl ⟨_, hn, rfl, rfl⟩
  · subst ex eH
    exact hbody A outer s2 _ _ Q E hr' (hq d hd)
end
/-- a method by keywords alone -/
def CalK (Z : Cz) (CX : CXT) (k : Nat) (C : Addr) (m : Str) (ks : List Str) (sp : V → List V → Hp → VK → XK → Prop) : Prop := ∃ f, FnKw Z.P Z.w Z.K Z.mg Z.base CX k f ks sp ∧ Meth Z.K C m f ∧ Cls Z.K C
section
variable {Z : Cz} {X : Cx} {CX : CXT} {k : Nat} {C : Addr} {ks : List Str} {sp : V → List V → Hp → VK → XK → Prop} {E : XK} {m : Str} {pos apos : Pos} {o : Expr} {ta : TE} {kws : List Keyword} {tk : TA}
def tMethK (C : Addr) (m : Str) (n : Nat) (sp : V → List V → Hp → VK → XK → Prop) (E : XK) (ta : TE) (tk : TA) : TE := fun σ H Q => ta σ H fun x H1 => ∃ a dx fs, x = .ref a ∧ H1 a = some (.ins C dx fs) ∧ fs.lookup m = none ∧ tk σ H1 fun zs H2 => zs.length = n ∧ sp x zs H2 Q E
theorem pe_calK {pl : Sem Bool} (c : CalK Z CX k C m ks sp) (hr : Room k X.A) (hx : Passes CX X E) (he : PE X o ta) (hkw : PK X kws tk) (z : InZ Z X := by exact ⟨rfl, rfl, rfl, rfl, rfl⟩)
    (hall : (backToKw pos (keywordEach kws X.env)).all (·.1.isSome) = true := by rfl) (hks : (backToKw pos (keywordEach kws X.env)).filterMap (·.1) = ks := by rfl)
    (hpl : ((backTo pos (starEach [] X.env)).any (·.1) || (backToKw pos (keywordEach kws X.env)).any (·.1.isNone)) = false := by rfl)
    (ht : eval (.Call (.Attribute o m apos) [] kws pos) X.env = (do
      let ov ← eval o X.env
      standAt apos.atName
      let (f, first) ← holding [ov] (getMethod ov m pl)
      callWith pos f first (backTo pos (starEach [] X.env)) (backToKw pos (keywordEach kws X.env))) := by rfl) :
    PE X (.Call (.Attribute o m apos) [] kws pos) (tMethK C m ks.length sp E ta tk) := by
  obtain ⟨f, G, hm, cl⟩ := c
  obtain ⟨e1, e2, e3, e4, e5⟩ := z
  rw [← e1, ← e2, ← e3, ← e4, ← e5] at G
  rw [← e3] at hm cl
  refine ⟨fun pins s σ H Q I h => ?_⟩
  refine PySem.W.methodCall_KW (pl := pl) (thn (he.run pins s σ H _ I h) fun u s1 ⟨x, H1, I1, rx, a, dx, fs, ex, ea, l, q⟩ => ?_) ht
  subst ex
  obtain rfl : u = Value.ref a := rx
  refine getmeth_ok I1 ea cl hm l ?_
  refine PySem.W.callWith_KW0 (first := [.ref a]) (h₀ := X.base) I.ok.mod.kin hm.kp hall ?_ hpl
  refine thn (hkw.run pos pins s1 σ H1 _ I1 q) fun ws s2 ⟨zs, H2, I2, rz, hl, q2⟩ => ⟨I2.kIn, ?_⟩
  rw [hks]
  refine wpAny_call (codeAny_mono (G X.A X.stack s2 H2 (.ref a) ws (.ref a) zs Q E hr I2.env0 rfl rz (rz.length.symm.trans hl) q2) fun r s' hq => ?_)
  cases r with
  | error e => exact hx pins σ H2 s2 e s' I2 hq
  | ok fl =>
    cases fl with
    | ret u => exact I2.after hq
    | next => exact False.elim hq
    | brk => exact False.elim hq
    | cont => exact False.elim hq
end
end Ps

/-! The Bool asks of a head, early, for the runs. -/
namespace Ps
open PySem PySem.Spec PyProof.Rows PySem.W L2 He

def ownB (K : Frag) (C : Addr) : Bool := eqO (findIn K (.ref C) "__class__") (some (some (.builtin "object.__class__"))) && (eqO (specialIn K (.builtin "object.__class__") "__get__") (some (some (.builtin "getset_descriptor.__get__"))) && (decide (takesIn K (.builtin "object.__class__") = some true) && decide (mroIn K C (.type "object") = some true)))
def shB (K : Frag) : Bool := (Fa.cls "Share").ok K && ((Fa.mkr "Share").ok K && ((Fa.noat "Share" "own_top").ok K && ((Fa.noat "Share" "own_under").ok K && ((Fa.glo "Share").ok K && (freeB K ["isinstance", "int", "bool", "abs", "len", "range", "max", "min"] && (ownB K (ga K "Share") &&
  (decide (kitOne K (.ref (ga K "Share")) (.ref (ga K "Share")) = some true) && (decide (kitOne K (.ref (ga K "Share")) (.type "int") = some false) && (decide (kitOne K (.type "int") (.ref (ga K "Share")) = some false) && ([.type "bool", .type "str", .type "NoneType", .type "list", .type "tuple", .type "dict"] : List Value).all fun t => decide (kitOne K t (.ref (ga K "Share")) = some false))))))))))
def numsB (K : Frag) : Bool := numB K (ga K "Share") "add" && (numB K (ga K "Share") "sub" && numB K (ga K "Share") "mul")
def neB (K : Frag) (C : Addr) : Bool := eqO (findIn K (.ref C) "__ne__") (some (some (.builtin "object.__ne__"))) && decide (mroIn K C (.type "object") = some true)
def rflB (K : Frag) (C : Addr) (nm : String) : Bool := findB K C (dunderR nm)
def noiB (K : Frag) (C : Addr) (nm : String) : Bool := (clsIn K C).any (fun cd => decide (cd.mro = [.ref C, .type "object"])) && (eqO (findIn K (.ref C) (dunderI nm)) (some none) && decide (fastLookup "object" (dunderI nm) = some none))
def txtB (K : Frag) (x z : Str) : Bool := match nsIn K mainGlobals x with
  | some (some (.str y _)) => decide (y = z)
  | _ => false
def intB (K : Frag) (x : Str) (i : Int) : Bool := match nsIn K mainGlobals x with
  | some (some (.int j _)) => decide (j = i)
  | _ => false
def excObjB (K : Frag) (C P : Addr) : Bool := match K.lookup C with
  | some ⟨.type "type", _, .cls cd, sl⟩ => (match sl.toList with
    | [_, _, _, _, some (.builtin n), _] => decide (cd.mro = .ref C :: .ref P :: ESX.exTail) && (decide (n = "Exception.__new__") && (!cd.hasDel && cd.hasDict))
    | _ => false)
  | _ => false
def excB (K : Frag) (x fl : Str) : Bool := excObjB K (ga K x) (ga K "PlanError") && ((Fa.glo x).ok K && (eqO (findIn K (.ref (ga K x)) "__setattr__") (some (some (.builtin "object.__setattr__"))) && (eqO (findIn K (.ref (ga K x)) fl) (some none) &&
  (keepIn K (.ref (ga K x)) && (decide (typeIn K (.ref (ga K x)) = some (.type "type")) && xfB K (ga K x))))))
def exmB (K : Frag) (x y : Str) (b : Bool) : Bool := decide (exmOne K (.ref (ga K x)) (.ref (ga K y)) = some b)
def noSubB (K : Frag) (C : Addr) (Ts : List String) : Bool := Ts.all fun T => decide (subIn K (.ref C) (.type T) = some false)
def prB (K : Frag) : Bool := (Fa.cls "Prices").ok K && ((Fa.mkr "Prices").ok K && ((Fa.noat "Prices" "own_make").ok K && ((Fa.noat "Prices" "own_general_make").ok K && ((Fa.noat "Prices" "pairs").ok K && ((Fa.glo "Prices").ok K && (freeB K ["isinstance", "int", "bool", "str", "list", "len", "all", "sorted", "tuple", "dict"] && (ownB K (ga K "Prices") &&
  (decide (kitOne K (.ref (ga K "Prices")) (.ref (ga K "Prices")) = some true) && (txtB K "LETTERS" "abcdefghijklmnopqrstuvwxyz" && (intB K "MOST_LETTERS" 8 && intB K "MOST_KINDS" 6))))))))))
def relsB : List V → List Value → Bool
  | [], [] => true
  | v :: vs, u :: us => relVB v u && relsB vs us
  | _, _ => false
def tupB (K : Frag) (x : Str) (xs : List V) : Bool := match nsIn K mainGlobals x with
  | some (some (.ref a)) => (match K.lookup a with
    | some ⟨.type "tuple", _, .seq its _, _⟩ => decide (its.size ≤ sizeLine) && relsB xs its.toList
    | _ => false)
  | _ => false
def bkKws : List (Str × V) := [("factor", .int 1), ("equal", .bl false), ("sliding", .bl false), ("after", .str "ever"), ("keep", .bl true)]
def bkB (K : Frag) : Bool := (Fa.cls "Book").ok K && ((Fa.mkr "Book").ok K && ((Fa.noat "Book" "settings").ok K && ((Fa.glo "Book").ok K && (ownB K (ga K "Book") && (decide (kitOne K (.ref (ga K "Book")) (.ref (ga K "Book")) = some true) && (decide (kitOne K (.type "int") (.ref (ga K "Book")) = some false) &&
  (freeB K ["str", "tuple", "len", "all", "isinstance"] && (txtB K "EVER" "ever" && (intB K "MOST_TRIES" 6 && (intB K "MOST_LOOK" 9 && (tupB K "FIELDS" [.str "tries", .str "told", .str "factor", .str "equal", .str "sliding", .str "after", .str "keep"] && kwdB K (ma K (ga K "Book") "__init__") bkKws)))))))))))
def pyB (K : Frag) : Bool := (Fa.cls "Player").ok K && ((Fa.mkr "Player").ok K && ((Fa.noat "Player" "own_book").ok K && ((Fa.noat "Player" "own_prices").ok K && ((Fa.noat "Player" "own_state").ok K && ((Fa.noat "Player" "own_paid").ok K && ((Fa.noat "Player" "own_asked").ok K && (Fa.glo "Player").ok K))))))
def psetB (K : Frag) (x nm : Str) : Bool := eqO (takerIn K (ga K x) nm) (some (some (.ref (ma K (ga K x) nm)))) && (match recIn K (ma K (ga K x) nm) "property" with
  | some (.ref _ :: .ref g :: _) => decide (g = rec1 K (ma K (ga K x) nm) "property")
  | _ => false)
def topB (K : Frag) (x : Str) : Bool := match clsIn K (ga K x) with
  | some cd => (match cd.mro with
    | .ref C :: _ => decide (C = ga K x)
    | _ => false)
  | none => false
def rnoB (K : Frag) (C : Addr) (nm : String) : Bool := eqO (findIn K (.ref C) (dunderR nm)) (some none)
def kitsL (K : Frag) (x : Str) (Ts : List String) : Bool := Ts.all fun T => decide (kitOne K (.type T) (.ref (ga K x)) = some false)
def mnB (K : Frag) : Bool := (Fa.cls "Menu").ok K && ((Fa.mkr "Menu").ok K && ((Fa.noat "Menu" "own_books").ok K && ((Fa.glo "Menu").ok K && (ownB K (ga K "Menu") && (decide (kitOne K (.ref (ga K "Menu")) (.ref (ga K "Menu")) = some true) && (intB K "MOST_BOOKS" 64 && freeB K ["all", "len", "isinstance"]))))))
end Ps

/-! Own errors over PlanError(Exception) whose __init__ keeps one field: made, raised, caught, read. -/
namespace Ps
open PySem PySem.W PySem.Calls PyProof.Rows PySem.HandSPX He

def xA (fl : Str) (p1 p2 : Pos) : Arguments := { posonlyargs := [], args := [{ arg := "self", annotation := none, pos := p1 }, { arg := fl, annotation := none, pos := p2 }], vararg := none, kwonlyargs := [], kw_defaults := [], kwarg := none, defaults := [] }
def xB (fl : Str) (q1 q2 q3 q4 : Pos) : List Stmt := [.Assign [.Attribute (.Name "self" q1) fl q2] (.Name fl q3) q4]
def xS (fl : Str) : Scope := { kind := .function, names := [(PySem.Str.ofString "self", .local), (fl, .local)], isGenerator := false, isCoroutine := false, more := [] }
/-- what the written part says of the error's class at C (its base at P), and of its __init__, at fI -/
structure ExT (K : Frag) (mg : Str → Option Value) (x fl qual : Str) (C P fI : Addr) : Prop where
  gC : mg x = some (.ref C)
  cls : ∃ nm q N bs sn sub ab col dd k0 k1 k2 k3 k5, K.lookup C = some (excClassObj nm q C N bs (.ref P :: ESX.exTail) true sn sub ab col dd k0 k1 k2 k3 k5 "Exception.__new__")
  sa : findIn K (.ref C) "__setattr__" = some (some (.builtin "object.__setattr__"))
  noN : findIn K (.ref C) fl = some none
  iC : findIn K (.ref C) "__init__" = some (some (.ref fI))
  tC : typeIn K (.ref fI) = some (.type "function")
  kC : keepIn K (.ref C) = true
  tyC : typeIn K (.ref C) = some (.type "type")
  xf : L2.XfC K C
  fn : ∃ (oc : Value) (od : Option Addr) (kV doc pm : Value) (an : Option Addr) (cdv ct : Value) (osl : Array (Option Value)) (p1 p2 q1 q2 q3 q4 : Pos),
    K.lookup fI = some ⟨oc, od, .func (fnOf "__init__" qual (xA fl p1 p2) (xB fl q1 q2 q3 q4) (xS fl) .none kV doc pm an cdv ct), osl⟩ ∧ codeIn K cdv qual = true
theorem one_size (v : Value) : [v].length ≤ sizeLine := by
  rw [sizeLine_eq]
  exact (by decide : 1 ≤ 16777216)
/-! ### self.f = f on a fresh error -/
section
open Builtin Builtin.ObjectAttr
variable {prog : Program} {w : World} {A : Around} {E : Value → Shared → Prop} {R : Result → Shared → Prop} {hp : Heap} {g : Array GenState} {d : Drawn} {t : Nat} {os : OsState}
theorem tailP_has {C P : Addr} (X : String) (hX : ESX.exTail.contains (.type X) = true) : (Value.ref C :: .ref P :: ESX.exTail).contains (.type X) = true := by
  rw [List.contains_cons, List.contains_cons, hX, Bool.or_true, Bool.or_true]
theorem tailP_eq {P : Addr} (X : String) : (Value.ref P :: ESX.exTail).contains (.type X) = ESX.exTail.contains (.type X) := by
  rw [List.contains_cons]
  rfl
theorem osa_P {K : Frag} {name : Str} {tk : Tok} {v : Value} {x C P : Addr} {fv : Array Value} {cd : ClassData}
    (X : K.In hp) (hx : hp.get? x = some { cls := .ref C, data := .fields fv }) (hcd : clsIn K C = some cd) (hm : cd.mro = .ref C :: .ref P :: ESX.exTail) (hh : cd.hasDict = true) (ha : findIn K (.ref C) name = some none)
    (hq : ∀ h' tk' dx, (∀ b o, b ≠ x → hp.get? b = some o → h'.get? b = some o) → hp.objs.size ≤ dx → dx ≠ x → h'.get? x = some { cls := .ref C, dict := some dx, data := .fields fv } →
      h'.Ns1 dx (fun y => if y = name then some v else none) → R (.ok (.ret .none)) ⟨h', g, d, tk', os⟩) :
    codeAny (model prog w) A (.call (.builtin "object.__setattr__") ⟨[.ref x, .str name tk, v], []⟩) R ⟨hp, g, d, t, os⟩ := by
  have I : InstAt hp x { cls := .ref C, data := .fields fv } C none := ⟨hx, rfl, rfl, trivial⟩
  have hxs : x ≠ hp.objs.size := Nat.ne_of_lt (Heap.lt_size hx)
  have SF := F.store_object
  have mro : mroIn K C (.type "object") = some true := by
    unfold mroIn
    rw [hcd, Option.bind_some, hm, if_neg (show ¬ (List.isEmpty (Value.ref C :: .ref P :: ESX.exTail) = true) from Bool.false_ne_true), tailP_has "object" (by decide +kernel)]
  have sub : Looks (model prog w) hp (isInstance (.ref x) (.type "object")) true := I.type.andThen (looks_mroIn X mro)
  refine codeAny_call_builtin SF.slot.plain SF.entry (@check_slot (model prog w) _ _ ⟨hp, g, d, t, os⟩ "object.__setattr__" "object" "__setattr__" (.ref x) [.str name tk, v] [] _ SF.kind SF.split sub (SF.args (.ref x) (.str name tk) v) ?_)
  have hmr : Looks (model prog w) hp (mroOf (.ref C)) cd.mro := (looks_clsIn X hcd).andThen .now
  have L3 : Looks (model prog w) hp (storeTaker? none) none := .now
  have hpass : refuseLoop (.ref x) "__setattr__" cd.mro = pure () := by
    rw [hm, refuseLoop_ref, refuseLoop_ref]
    exact F.store_Exception.passes _
  rw [osa_eq, refuse_eq]
  refine wpAny_bind (wpAny_bind (I.type.at (wpAny_bind (hmr.at ?_))))
  rw [hpass]
  refine wpAny_pure (wpAny_bind (I.type.at (wpAny_bind ((looks_findIn X ha).at (wpAny_bind (L3.at ?_))))))
  show wpAny _ _ (storeInOwnDict (.ref x) (.ref C) (.str name tk) name v false) _ _ _
  have hcls : Looks (model prog w) hp (classData C) cd := looks_clsIn X hcd
  obtain ⟨nm, bs, mro, ns, qn, hd, sn, sb, ab, col, del⟩ := cd
  dsimp only at hh
  subst hh
  unfold storeInOwnDict ownDictForStores
  repeat (first | with_reducible refine HandSPX.store_in_new ?_ ?_ | with_reducible refine wpAny_loadPart_at hx ?_ | with_reducible refine hcls.at ?_ | wp_step)
  · exact ⟨_, #[], _, (Heap.get?_update_ne _ _ _ _ hxs.symm).trans (Heap.get?_push_at rfl rfl), rfl, fun e he => absurd he (by simp), fun _ => rfl⟩
  · intro h' tk' hn' hs
    have hx₁ : (hp.push { cls := .type "dict", data := .dict #[] }).get? x = some { cls := .ref C, data := .fields fv } := Heap.get?_push_of_some _ hx
    refine hq h' tk' hp.objs.size (fun b o hb ho => ?_) (Nat.le_refl _) hxs.symm ?_ hn'
    · exact (hs.2 b (Nat.ne_of_lt (Heap.lt_size ho))).trans ((Heap.get?_update_ne _ _ _ _ hb).trans (Heap.get?_push_of_some _ ho))
    · exact (hs.2 x hxs).trans (Heap.get?_update_self _ hx₁ rfl)
end
theorem ldX {M : Model} {s : Shared} {name : Str} {scope : Scope} {L a : Addr} {cd : Value} {m : Str → Option Value} {x : Str} {pos : Pos} {v : Value} {Q : Value → Shared → Prop} {A : Around} {E : Value → Shared → Prop} (hn : s.heap.Ns L m) (hv : m x = some v) (h : Q v s)
    (hl : (envOfC name scope L a cd).kindOf x = some .local) (hd : (x == ("__debug__" : Str)) = false) (hk : scope.kind = .function := by rfl) :
    wpAny M A (eval (.Name x pos) (envOfC name scope L a cd)) Q E s := wpAny_Name (wpAny_loadName_local hk hl hn hv h) hd
/-- what __init__ leaves of a fresh error at x -/
structure XInit (h h' : Heap) (x C dx t1 : Addr) (fl : Str) (v : Value) : Prop where
  keep : ∀ b o, b ≠ x → h.get? b = some o → h'.get? b = some o
  obj : h'.get? x = some { cls := .ref C, dict := some dx, data := .fields #[.ref t1, .none, .none, .none, .bool false, .none] }
  dbig : h.objs.size ≤ dx
  dne : dx ≠ x
  ns : h'.Ns1 dx (fun y => if y = fl then some v else none)
/-- a made error -/
structure XMade (h h' : Heap) (e C d : Addr) (fl : Str) (v : Value) : Prop where
  keep : ∀ b o, h.get? b = some o → h'.get? b = some o
  new : h.objs.size ≤ e
  obj : ∃ t1, h'.get? e = some { cls := .ref C, dict := some d, data := .fields #[.ref t1, .none, .none, .none, .bool false, .none] }
  dbig : h.objs.size ≤ d
  dne : d ≠ e
  ns : h'.Ns1 d (fun y => if y = fl then some v else none)
/-- a field's name that is no special one -/
structure FlOk (fl : Str) : Prop where
  bind : ∀ (qual : Str) (p1 p2 : Pos) (b : List Stmt) (sc : Scope) (kV doc pm : Value) (an : Option Addr) (cdv ct a v : Value), bindArgs (fnOf "__init__" qual (xA fl p1 p2) b sc .none kV doc pm an cdv ct) ⟨[a, v], []⟩ = pure [(("self" : Str), a), (fl, v)]
  all_ : ∀ a v : Value, ([(("self" : Str), a), (fl, v)].all fun y => List.lookup y.fst (xS fl).names == some NameKind.local || List.lookup y.fst (xS fl).names == some NameKind.cell) = true
  bf : ∀ (qual : Str) (L f : Addr) (cdv a v : Value), bindL (envOfC qual (xS fl) L f cdv).kindOf [(("self" : Str), a), (fl, v)] (fun _ => none) fl = some v
  bs : ∀ (qual : Str) (L f : Addr) (cdv a v : Value), bindL (envOfC qual (xS fl) L f cdv).kindOf [(("self" : Str), a), (fl, v)] (fun _ => none) "self" = some a
  ks : ∀ (qual : Str) (L f : Addr) (cdv : Value), (envOfC qual (xS fl) L f cdv).kindOf "self" = some .local
  kf : ∀ (qual : Str) (L f : Addr) (cdv : Value), (envOfC qual (xS fl) L f cdv).kindOf fl = some .local
  dbg : (fl == ("__debug__" : Str)) = false
theorem fl_value : FlOk "value" := ⟨fun _ _ _ _ _ _ _ _ _ _ _ _ _ => rfl, fun _ _ => rfl, fun _ _ _ _ _ _ => rfl, fun _ _ _ _ _ _ => rfl, fun _ _ _ _ => rfl, fun _ _ _ _ => rfl, by decide⟩
section
variable {prog : Program} {w : World} {A : Around} {E : Value → Shared → Prop} {R : Result → Shared → Prop} {s : Shared} {K : Frag} {mg : Str → Option Value} {x0 fl qual : Str} {C P fI : Addr}
theorem x_init (T : ExT K mg x0 fl qual C P fI) (hf : FlOk fl) {x t0 : Addr} {v : Value} (X : K.In s.heap) (hlim : s.heap.NoLimit) (hx : s.heap.get? x = some (excO C t0)) (hroom : A.depth < recursionLimit)
    (hq : ∀ h' tk dx, XInit s.heap h' x C dx t0 fl v → R (.ok (.ret .none)) { s with heap := h', toks := tk }) :
    codeAny (model prog w) A (.call (.ref fI) ⟨[.ref x, v], []⟩) R s := by
  obtain ⟨oc, od, kV, doc, pm, an, cdv, ct, osl, p1, p2, q1, q2, q3, q4, ho, hcd⟩ := T.fn
  obtain ⟨nm, q, N, bs, sn, sub, ab, col, dd, k0, k1, k2, k3, k5, hC⟩ := T.cls
  have hcl : clsIn K C = some { name := nm, bases := bs, mro := .ref C :: .ref P :: ESX.exTail, ns := N, qualname := q, hasDict := true, slotNames := sn, subclasses := sub, abstract := ab, collection := col, hasDel := false } := by unfold clsIn; rw [hC] <;> rfl
  refine Att.call_fn (binds := [("self", .ref x), (fl, v)]) X hlim ho hcd hroom (BindsTo.of_eq (hf.bind _ _ _ _ _ _ _ _ _ _ _ _ _)) (hf.all_ _ _) (fun s₁ IC => ?_) rfl rfl rfl
  obtain ⟨h₁, tk₁, rfl⟩ := IC.toInCall.same
  have k : ∀ b o, s.heap.get? b = some o → h₁.get? b = some o := IC.toInCall.keep
  have hn := IC.toInCall.ns
  have hxL : s.heap.objs.size ≠ x := Nat.ne_of_gt (Heap.lt_size hx)
  have X₁ : K.In h₁ := X.keeps k
  have hx₁ := k _ _ hx
  show wpAny _ _ (execs _ _) _ _ _
  refine wpAny_execs_cons (plainObj_wpAny_Assign_Attribute ?_)
  refine ldX (v := v) hn (hf.bf _ _ _ _ _ _) (ldX (v := .ref x) hn (hf.bs _ _ _ _ _ _) ?_ (hf.ks _ _ _ _) (by decide)) (hf.kf _ _ _ _) hf.dbg
  refine set_plain X₁ (ox := excO C t0) (od := none) ⟨hx₁, rfl, rfl, trivial⟩ T.sa ?_
  refine osa_P X₁ hx₁ hcl rfl rfl T.noN (fun h₃ tk₃ dx k₃ dn dne hx₃ hn₃ => ?_)
  show wpAny _ _ (execs _ _) _ _ _
  have z : s.heap.objs.size < h₁.objs.size := hn.lt
  exact wpAny_execs_nil (hq h₃ tk₃ dx ⟨fun b o hb e => k₃ b o hb (k b o e), hx₃, Nat.le_of_lt (Nat.lt_of_lt_of_le z dn), dne, hn₃⟩)
theorem x_made (T : ExT K mg x0 fl qual C P fI) (hf : FlOk fl) {v : Value} (X : K.In s.heap) (hlim : s.heap.NoLimit) (hroom : A.depth + 1 < recursionLimit)
    (hq : ∀ h' tk e d, XMade s.heap h' e C d fl v → R (.ok (.ret (.ref e))) { s with heap := h', toks := tk }) :
    codeAny (model prog w) A (.call (.ref C) ⟨[v], []⟩) R s := by
  obtain ⟨nm, q, N, bs, sn, sub, ab, col, dd, k0, k1, k2, k3, k5, hC⟩ := T.cls
  obtain ⟨hp, g, dr, tk, os⟩ := s
  have k : ∀ b o, hp.get? b = some o → ((hp.push (kdv_tup [v])).push (excO C hp.objs.size)).get? b = some o := fun b o e => Heap.get?_push_of_some _ (Heap.get?_push_of_some _ e)
  have hget : ((hp.push (kdv_tup [v])).push (excO C hp.objs.size)).get? (hp.objs.size + 1) = some (excO C hp.objs.size) := by heap_get
  refine call_own F.excBase_Exception (fun X => tailP_eq X) (X _ _ hC) (looks_findIn X T.iC) (fun self => bind_fn X self T.tC) (one_size v) ?_
  refine x_init (s := ⟨(hp.push (kdv_tup [v])).push (excO C hp.objs.size), g, dr, tk, os⟩) T hf (X.keeps k) (hlim.keeps k) hget ?_ fun h' tk' dx ⟨k', hx, dn, dne, hns⟩ => ?_
  · show A.depth + 1 < recursionLimit
    exact hroom
  · have old : ∀ b o, hp.get? b = some o → h'.get? b = some o := fun b o e => k' b o (Nat.ne_of_lt (Nat.lt_succ_of_lt (Heap.lt_size e))) (k b o e)
    have z : hp.objs.size + 1 + 1 ≤ dx := by
      first
        | (simpa only [Heap.size_push] using dn)
        | exact dn
        | (have q := dn; rw [Heap.size_push, Heap.size_push] at q; exact q)
    exact ⟨rfl, hq h' tk' (hp.objs.size + 1) dx ⟨old, Nat.le_succ _, ⟨_, hx⟩, Nat.le_trans (Nat.le_trans (Nat.le_succ _) (Nat.le_succ _)) z, dne, hns⟩⟩
end
open PySem.Spec L2
theorem relO_x {fl : Str} {v : V} {v' : Value} (r : RelV v v') (f : Str) : RelO (List.lookup f [(fl, v)]) (if f = fl then some v' else none) := by
  by_cases hw : f = fl
  · subst hw
    rw [if_pos rfl]
    have q : List.lookup f [(f, v)] = some v := by simp [List.lookup]
    rw [q]
    exact r
  · rw [if_neg hw]
    have qw : (f == fl) = false := by simpa using hw
    have q2 : List.lookup f [(fl, v)] = none := by simp [List.lookup, qw]
    rw [q2]
    trivial
section
variable {X : Cx} {C P fI : Addr} {x0 fl qual : Str}
/-- X(e) -/
def tMkX (C : Addr) (fl : Str) (ta : TA) : L2.St → Hp → XK → Prop := fun σ H Q => ta σ H fun vs H1 => ∃ v, vs = [v] ∧ ∀ d, H1 d = none → Q (.ref C) (some d) (L2.upd H1 d (.xd [(fl, v)]))
theorem pmk_x {a : Expr} {ta : TA} {p pos : Pos} {k : Nat} (T : ExT X.K X.mg x0 fl qual C P fI) (hf : FlOk fl) (hr : Room k X.A) (ha : PA X [a] ta) (hg : Gl X x0)
    (he : starEach (a :: []) X.env = (false, eval a X.env) :: starEach [] X.env := by rfl) (hpl : (backTo pos (starEach [] X.env)).any (·.1) = false := by rfl) (hdb : (x0 == ("__debug__" : Str)) = false := by decide) :
    L2N.PMk X (.Call (.Name x0 p) [a] [] pos) (tMkX C fl ta) := by
  intro pins s σ H Q I h
  refine wpAny_Call_Name_kw (ld_glob I hg T.gC ?_ hdb)
  refine callWith_K (h₀ := X.base) I.ok.mod.kin T.kC (thn (ha.run pos pins s σ H _ I h) fun us s1 hh => ?_) he hpl
  obtain ⟨vs, H1, I1, r1, v, ev, q1⟩ := hh
  subst ev
  refine ⟨I1.kIn, ?_⟩
  cases r1 with
  | cons rv rn =>
    rename_i v' us'
    cases rn
    show wpAny _ _ (call (.ref C) [v']) _ _ _
    have hlim := I1.nolimit
    obtain ⟨hp, g, dr, tk, os⟩ := s1
    refine wpAny_call (x_made T hf I1.kIn hlim (by have := hr.dp; omega) fun h' tk' e d M => ?_)
    show L2N.MkP X pins σ Q (.ref e) ⟨h', g, dr, tk', os⟩
    obtain ⟨t1, hoe⟩ := M.obj
    have hns := M.ns
    obtain ⟨G', g1, g2⟩ := restrict h' fun b => decide (b ≠ e)
    have gk : ∀ b, b ≠ e → G'.get? b = h'.get? b := fun b hb => g1 b (decide_eq_true hb)
    have ge : G'.get? e = none := g2 e (by simp)
    have old : ∀ b o, hp.get? b = some o → G'.get? b = some o := fun b o q => (gk b (Nat.ne_of_lt (Nat.lt_of_lt_of_le (Heap.lt_size q) M.new))).trans (M.keep b o q)
    have ob : ObjOk X.prog X.w (L2.upd H1 d (.xd [(fl, v)])) G' d (.xd [(fl, v)]) :=
      ⟨_, hns.at (fun o q => (gk d M.dne).trans q), fun f => relO_x rv f⟩
    have J : L2.Inv X pins σ (L2.upd H1 d (.xd [(fl, v)])) ⟨G', g, dr, tk', os⟩ := I1.laid (t' := tk') old M.dbig ob
    refine ⟨e, _, _, ⟨G', g, dr, tk', os⟩, _, .ref C, some d, rfl, J, fun b o q => ?_, ge, hoe, ⟨rfl, rfl, fun vs e => by cases e; rfl⟩, rfl, rfl, ?_, rfl, I1.bare, raises_own T.xf.exC T.tyC, q1 d (I1.hok.fresh M.dbig)⟩
    · by_cases hb : b = e
      · have q' : G'.get? b = some o := q
        rw [hb, ge] at q'; cases q'
      · exact (gk b hb).symm.trans q
    · rw [upd_ne (Ne.symm M.dne)]
      exact I1.hok.fresh M.new
/-- raise X(e) -/
def tRaiseX (C : Addr) (fl : Str) (W : WX) (ta : TA) : TS := fun _ σ H => tMkX C fl ta σ H fun cls d H' => W cls d σ H'
theorem ps_raiseX {a : Expr} {ta : TA} {W : WX} {p pos pos2 : Pos} {k : Nat} (T : ExT X.K X.mg x0 fl qual C P fI) (hf : FlOk fl) (hr : Room k X.A) (tk : L2N.Takes X W) (ha : PA X [a] ta) (hg : Gl X x0) (hc : X.calm = true := by rfl)
    (he : starEach (a :: []) X.env = (false, eval a X.env) :: starEach [] X.env := by rfl) (hpl : (backTo pos (starEach [] X.env)).any (·.1) = false := by rfl) (hdb : (x0 == ("__debug__" : Str)) = false := by decide) :
    PS X (.Raise (some (.Call (.Name x0 p) [a] [] pos)) none pos2) (tRaiseX C fl W ta)   := L2N.ps_raise hc tk (pmk_x T hf hr ha hg he hpl hdb)
end
end Ps

/-! try with several named clauses; calls whose errors are wished for at the caller's slots. -/
namespace Ps
open PySem PySem.Spec PyProof.Rows L2

/-- a clause: the class, the name's slot, the suite's reading -/
abbrev Cl : Type := Value × Nat × (Addr → Value → Option Addr → TS)
/-- the ends of a suite whose name goes behind it -/
def endsN (D : Ends) (i : Nat) : Ends := { nx := fun σ' H' => D.nx (σ'.set i none) H', rt := D.rt, bk := fun σ' H' => D.bk (σ'.set i none) H', ct := fun σ' H' => D.ct (σ'.set i none) H' }
def wN (K : PySem.W.Frag) (Wout : WX) (D : Ends) : List Cl → WX
  | [] => Wout
  | (c, i, ts) :: r => fun cls d σ H => ∃ b, PySem.W.exmOne K cls c = some b ∧ (b = true → ∀ a, H a = none → ts a cls d (endsN D i) (σ.set i (some (.ref a))) H) ∧ (b = false → wN K Wout D r cls d σ H)
inductive HdsN (X : Cx) : List ExceptHandler → List Cl → Prop
  | nil : HdsN X [] []
  | cons {x n : Str} {c : Value} {i : Nat} {ts : Addr → Value → Option Addr → TS} {b₀ : Stmt} {suite : List Stmt} {np pos' : Pos} {hds : List ExceptHandler} {l : List Cl} (hi : X.N[i]? = some n) (hln : X.env.kindOf n = some .local) (hc : Names X x c)
      (hsu : ∀ (a : Addr) (oe : Obj) (cls : Value) (d : Option Addr) (pn : List (Addr × Obj)), L2N.Zn cls d oe → (∃ vs, oe.data = .fields vs) → PSs (X.suite a ((a, oe) :: pn)) (b₀ :: suite) (ts a cls d)) (r : HdsN X hds l) :
      HdsN X (.ExceptHandler (some (.Name x np)) (some n) (b₀ :: suite) pos' :: hds) ((c, i, ts) :: l)
/-- the error has landed: s is the state, sI the one without it -/
structure Down (X : Cx) (pins : List (Addr × Obj)) (a : Addr) (B : Heap) (cls : Value) (d : Option Addr) (σ : L2.St) (H : Hp) (sI s : Shared) : Prop where
  inv : L2.Inv X pins σ H sI
  nb : ∀ b o, sI.heap.get? b = some o → b ∉ frs X.stack → B.get? b = some o
  up : sI.heap.UpToSlots s.heap
  fl : HandSPX.FlyingZ B (X.env :: X.outer) a (L2N.Zn cls d) s.heap
  na : H a = none
  os : s.os = sI.os
  ag : AllBare s.gens
section
variable {X : Cx} {pins : List (Addr × Obj)} {a : Addr} {B : Heap} {cls : Value} {d : Option Addr} {σ : L2.St} {H : Hp} {sI s : Shared} {Wout : WX} {D : Ends}
theorem Down.here (G : Down X pins a B cls d σ H sI s) : L2.Inv X pins σ H s := G.inv.landed G.nb G.fl.1 G.up G.os G.ag
theorem Down.off (G : Down X pins a B cls d σ H sI s) (hf : X.env.frame = some X.env.locals) : a ≠ X.env.locals ∧ a ∉ X.fs := by
  obtain ⟨oe, vs, he, hz, hd⟩ := G.fl.there
  have nfr : a ∉ frs (X.env :: X.outer) := fun hm => by
    obtain ⟨_, o', e', hnf⟩ := G.fl.2.2.1.mem hm
    rw [he] at e'
    cases e'
    exact hnf _ hd
  refine ⟨fun z => nfr (List.mem_filterMap.mpr ⟨X.env, List.mem_cons_self, by rw [hf, z]⟩), fun hm => ?_⟩
  obtain ⟨e, h1, q⟩ := List.mem_filterMap.mp hm
  exact nfr (List.mem_filterMap.mpr ⟨e, List.mem_cons_of_mem _ h1, q⟩)
/-- no clause is left: it goes on -/
theorem down_nil (G : Down X pins a B cls d σ H sI s) (hs : X.stack = X.env :: X.outer) (hf : X.env.frame = some X.env.locals) (tk : L2N.Takes X Wout) (w : Wout cls d σ H) : wpAny (model X.prog X.w) X.A (handleBy (.ref a) X.env []) (SP X pins D) X.xe s := by
  refine wpAny_handleBy_nil ?_
  obtain ⟨k1, k2, k3, oe, vs, T, oT, ts', he, hz, hd, h1, hr⟩ := id G.fl
  unfold PySem.passOn
  refine wpAny_bind (wpAny_field he hd h1 ?_)
  rw [if_neg (show ¬ ((Value.ref T == Value.none) = true) from by simp)]
  have fin : wpAny (model X.prog X.w) X.A (setFlight (.ref a) X.env.frame) (fun _ s4 => wpAny (model X.prog X.w) X.A (throw (.ref a) : Sem Flow) (SP X pins D) X.xe s4) X.xe s := by
    rw [hf]
    refine HandSPX.setFlight_upZ G.fl fun h4 hh4 up4 => wpAny_throw (tk _ _ ?_)
    exact ⟨a, B, sI, pins, σ, H, cls, d, rfl, G.inv, G.nb, G.up.trans up4, .inr (.inr (by rw [hs]; exact hh4)), G.na, G.os, G.ag, w⟩
  first
    | exact wpAny_bind (wpAny_pure (wpAny_bind fin))
    | exact wpAny_bind fin
/-- the clause's suite runs -/
theorem down_suite {n : Str} {i : Nat} {ts : Addr → Value → Option Addr → TS} {b₀ : Stmt} {suite : List Stmt} {pos' : Pos} {Q : Flow → Shared → Prop} {E1 E2 : Value → Shared → Prop} (G : Down X pins a B cls d σ H sI s) (hf : X.env.frame = some X.env.locals) (hN : X.N.Nodup) (hi : X.N[i]? = some n) (hln : X.env.kindOf n = some .local)
    (hsu : ∀ (a : Addr) (oe : Obj) (cls : Value) (d : Option Addr) (pn : List (Addr × Obj)), L2N.Zn cls d oe → (∃ vs, oe.data = .fields vs) → PSs (X.suite a ((a, oe) :: pn)) (b₀ :: suite) (ts a cls d))
    (w : ts a cls d (endsN D i) (σ.set i (some (.ref a))) H) (hQ : ∀ f s', SP X pins D f s' → Q f s') :
    wpAny (model X.prog X.w) (X.A.mark (some (.ref a))) (storeName X.env n (.ref a)) (fun _ s5 => wpAny (model X.prog X.w) (X.A.mark (some (.ref a))) (execs (b₀ :: suite) X.env)
      (fun f s6 => wpAny (model X.prog X.w) X.A (do bindName X.env n .none; unbindBehindTheSuite X.env n pos') (fun _ s7 => Q f s7) X.xe s6) E2 s5) E1 s := by
  obtain ⟨oe, vs, he, hz, hd⟩ := G.fl.there
  have J := G.here
  obtain ⟨nL, nF⟩ := G.off hf
  have S4 := J.suite he hd G.na nL nF
  refine store_ok (X := X.suite a ((a, oe) :: (X.pn ++ pins))) (v := .ref a) S4 hN hi (.inl hln) rfl (fun s5 S5 => ?_) (.inr hln)
  refine wpAny_mono ((hsu a oe cls d (X.pn ++ pins) hz ⟨_, hd⟩).run [] s5 _ H _ S5 w) (fun f s6 hsp => ?_) (fun _ _ z => False.elim z)
  have away : ∀ {σ6 : L2.St} {H6 : Hp}, L2.Inv (X.suite a ((a, oe) :: (X.pn ++ pins))) [] σ6 H6 s6 → (∀ s7, L2.Inv X pins (σ6.set i none) H6 s7 → SP X pins D f s7) →
      wpAny (model X.prog X.w) X.A (do bindName X.env n .none; unbindBehindTheSuite X.env n pos') (fun _ s7 => Q f s7) X.xe s6 := fun {σ6 H6} S6 hq => gone_ok (S6.unsuite J.ok) hN hi hln fun s7 J7 => hQ _ _ (hq s7 J7)
  cases f with
  | next => obtain ⟨σ6, H6, S6, q6⟩ := hsp; exact away S6 fun s7 J7 => ⟨_, _, J7, q6⟩
  | brk => obtain ⟨σ6, H6, S6, q6⟩ := hsp; exact away S6 fun s7 J7 => ⟨_, _, J7, q6⟩
  | cont => obtain ⟨σ6, H6, S6, q6⟩ := hsp; exact away S6 fun s7 J7 => ⟨_, _, J7, q6⟩
  | ret u => obtain ⟨v6, σ6, H6, S6, r6, q6⟩ := hsp; exact away S6 fun s7 J7 => ⟨_, _, _, J7, r6, q6⟩
theorem down_all (hs : X.stack = X.env :: X.outer) (hf : X.env.frame = some X.env.locals) (hN : X.N.Nodup) (tk : L2N.Takes X Wout) : ∀ {hds : List ExceptHandler} {l : List Cl}, HdsN X hds l → ∀ {s : Shared}, Down X pins a B cls d σ H sI s → wN X.K Wout D l cls d σ H →
    wpAny (model X.prog X.w) X.A (handleBy (.ref a) X.env hds) (SP X pins D) X.xe s
  | _, _, .nil, s, G, w => down_nil G hs hf tk w
  | _, _, @HdsN.cons _ x n c i ts b₀ suite np pos' hds l hi hln hc hsu r, s, G, w => by
    obtain ⟨b, hb1, hyes, hno⟩ := w
    obtain ⟨oe, vs, he, hz, hd⟩ := G.fl.there
    obtain ⟨nL, nF⟩ := G.off hf
    have S3 := G.here.suite he hd G.na nL nF
    refine wpAny_handleBy_cons (codeAny_handlers_test ?_) (by intro q; cases q)
    have LT : PySem.W.Looks (model X.prog X.w) s.heap (typeOf (.ref a)) cls := fun A Q E s k q => wpAny_typeOf_ref (k _ _ he) (by rw [hz.1]; exact q)
    have LM := PySem.W.exm_one (M := model X.prog X.w) G.here.kIn LT hb1
    have look : ∀ {Q : Value → Shared → Prop} {E : Value → Shared → Prop}, Q c s → wpAny (model X.prog X.w) (X.A.mark (some (.ref a))) (eval (.Name x np) X.env) Q E s := fun {Q E} q => by
      obtain ⟨hg, hdbg, hm | ⟨hm, hv, hnn⟩⟩ := hc
      · exact ld_glob (X := X.suite a ((a, oe) :: (X.pn ++ pins))) S3 hg hm q hdbg
      · exact ld_blt (X := X.suite a ((a, oe) :: (X.pn ++ pins))) S3 hg hm hv q hnn hdbg
    refine look (LM.here ?_)
    cases b with
    | false =>
      show wpAny _ X.A (handleBy (.ref a) X.env hds) _ _ _
      exact down_all hs hf hN tk r G (hno rfl)
    | true =>
      refine codeAny_handlers_suite_as ?_
      refine HandSPX.lands_againZ G.fl fun h4 fl4 up4 => ?_
      have G4 : Down X pins a B cls d σ H sI { s with heap := h4 } := ⟨G.inv, G.nb, G.up.trans up4, fl4, G.na, G.os, G.ag⟩
      exact down_suite G4 hf hN hi hln hsu (hyes rfl a G.na) (fun _ _ q => q)
end
section
variable {X : Cx} {body : List Stmt} {h₀ : ExceptHandler} {hds : List ExceptHandler} {l : List Cl} {pos : Pos} {tb : WX → TS} {Wout : WX}
/-- try: body / except A as n: .. / except B as n: .. -/
theorem ps_tryN (hs : X.stack = X.env :: X.outer) (hf : X.env.frame = some X.env.locals) (hN : X.N.Nodup) (tk : L2N.Takes X Wout)
    (hb : ∀ (W : WX) (pn : List (Addr × Obj)) (xe : Value → Shared → Prop), L2N.Takes (X.tr pn xe) W → PassesOwn (model X.prog X.w) X.A X.env xe → PSs (X.tr pn xe) body (tb W))
    (hh : HdsN X (h₀ :: hds) l) : PS X (.Try body (h₀ :: hds) [] [] pos) (fun D σ H => tb (wN X.K Wout D l) D σ H) := by
  refine ⟨fun pins s σ H D I h => ?_⟩
  have ok := I.ok
  have hfr : X.A.frames = some (X.env :: X.outer) := by rw [ok.frames, hs]
  refine wpAny_Try_except ?_
  have run := (hb (wN X.K Wout D l) (X.pn ++ pins) (fun e s₁ => wpAny (model X.prog X.w) X.A (noteFrame e X.env) (fun _ s₂ => wpAny (model X.prog X.w) X.A (setFlight e none) (fun _ s₃ =>
    wpAny (model X.prog X.w) X.A (handleBy e X.env (h₀ :: hds)) (SP X pins D) X.xe s₃) X.xe s₂) X.xe s₁) (fun u s' xx => ?_) PassesOwn.looking).run [] s σ H D (I.toTry _) h
  · refine wpAny_mono run (fun f s1 hsp => ?_) (fun e s1 he => he)
    cases f with
    | next => obtain ⟨σ', H', J', q⟩ := hsp; exact wpAny_execs_nil ⟨σ', H', J'.ofTry ok, q⟩
    | brk => obtain ⟨σ', H', J', q⟩ := hsp; exact ⟨σ', H', J'.ofTry ok, q⟩
    | cont => obtain ⟨σ', H', J', q⟩ := hsp; exact ⟨σ', H', J'.ofTry ok, q⟩
    | ret u => obtain ⟨v, σ', H', J', r, q⟩ := hsp; exact ⟨v, σ', H', J'.ofTry ok, r, q⟩
  · obtain ⟨a, B, sI, pins', σ', H', cls, d, rfl, J', nb, up, sky, na, os, ag, w⟩ := xx
    have sky' : Sky B (X.env :: X.outer) a (L2N.Zn cls d) X.env.locals s'.heap := by rw [← hs]; exact sky
    show wpAny (model X.prog X.w) X.A (noteFrame (.ref a) X.env) _ _ _
    refine L2N.Sky.land L2N.Zn.steady hfr hf sky' fun h3 fl3 up3 => ?_
    exact down_all hs hf hN tk hh (s := { s' with heap := h3 }) ⟨J'.ofTry ok, nb, up.trans up3, fl3, na, os, ag⟩ w
end
end Ps

/-! Defs that raise; their calls inside a try; defs called while an error is handled. -/
namespace Ps
open PySem PySem.Spec PyProof.Rows L2

/-- what leaves a def that raises: errors whose context is None -/
abbrev CXN (Z : Cz) : CXT := L2N.CX Z.P Z.w
section
variable {P : Program} {w : World} {K : PySem.W.Frag} {mg : Str → Option Value} {base : Heap}
theorem Fun.okN {x qual : Str} {st : Stmt} {f : Addr} {fd : FuncData} {N ps : List Str} {k : Nat} {sp : Sp} {CX : CXT} (F : Fun K x qual st f fd) (S : FnScope N ps (defScope st)) (len : ∀ vs H Q E, sp vs H Q E → vs.length = ps.length)
    (hbody : ∀ (cdv : Value) (A : Around) (outer : List Env) (s : Shared) (H : Hp) (vs : List V) (Q : VK) (E : XK), Room k (A.deeper (envOfC qual (defScope st) s.heap.objs.size f cdv)) → sp vs H Q E →
      ∃ t, PSs (cxOf CX P w K mg base N qual (defScope st) f cdv A outer s H E) (defBody st) t ∧ t { nx := fun _ H' => Q .non H', rt := Q } (start N vs) H) : FnOk P w K mg base CX (k + 1) f fd ps sp := by
  obtain ⟨oc, od, kV, doc, pm, an, cdv, ct, osl, rfl, lk, hcd⟩ := F.ex
  exact fn_of lk hcd S len fun A outer s H vs Q E hr hsp => hbody cdv A outer s H vs Q E hr hsp
theorem Fun.okH {x qual : Str} {st : Stmt} {f : Addr} {fd : FuncData} {N ps : List Str} {k : Nat} {sp : Sp} {CX : CXT} (F : Fun K x qual st f fd) (S : FnScope N ps (defScope st)) (len : ∀ vs H Q E, sp vs H Q E → vs.length = ps.length)
    (hbody : ∀ (cdv : Value) (A : Around) (outer : List Env) (s : Shared) (H : Hp) (vs : List V) (Q : VK) (E : XK) (p : Addr × Obj), L2H.Hot1 A p → L2H.RoomH k (A.deeper (envOfC qual (defScope st) s.heap.objs.size f cdv)) → sp vs H Q E →
      ∃ t, PSs (L2H.cxH CX P w K mg base N qual (defScope st) f cdv A outer s H E p) (defBody st) t ∧ t { nx := fun _ H' => Q .non H', rt := Q } (start N vs) H) : L2H.FnH P w K mg base CX (k + 1) f fd ps sp := by
  obtain ⟨oc, od, kV, doc, pm, an, cdv, ct, osl, rfl, lk, hcd⟩ := F.ex
  exact L2H.fn_ofH lk hcd S len fun A outer s H vs Q E p hot hr hsp => hbody cdv A outer s H vs Q E p hot hr hsp
/-- a def that raises, where it raises nothing -/
theorem okCalm {k : Nat} {f : Addr} {fd : FuncData} {ps : List Str} {sp sp' : Sp} (F : FnOk P w K mg base (L2N.CX P w) k f fd ps sp) (h : ∀ vs H Q E, sp' vs H Q E → sp vs H Q E0) : FnOk P w K mg base CX0 k f fd ps sp' := by
  refine ⟨fun vs H Q E hs => F.len vs H Q E0 (h vs H Q E hs), fun A outer s H args us vs Q E hr e0 hb r hs => ?_⟩
  refine codeAny_mono (F.run A outer s H args us vs Q E0 hr e0 hb r (h _ _ _ _ hs)) fun r s' hq => ?_
  cases r with
  | error e =>
    obtain ⟨_, _, _, _, _, _, _, _, _, _, _, _, z⟩ := hq
    exact z.elim
  | ok fl => cases fl <;> exact hq
end
/-- all errors of the def go out as they are -/
theorem passN {X : Cx} {E : XK} (tk : L2N.Takes X (fun cls d _ H => E cls d H)) : Passes (L2N.CX X.prog X.w) X E := L2N.passes_call tk fun _ _ _ _ h => h
section
variable {Z : Cz} {X : Cx} {CX : CXT} {k : Nat} {C : Addr} {ps : List Str} {sp : Sp} {dvs : List V} {E : L2.St → XK} {x m : Str} {p pos apos : Pos} {e o : Expr} {es : List Expr} {ta : TE} {t : TA}
theorem pe_calS (c : Cal Z CX k x ps dvs sp) (hr : Room k X.A) (hg : Gl X x) (hx : ∀ σ, PassesAt CX X σ (E σ)) (ha : PA X (e :: es) t) (z : InZ Z X := by exact ⟨rfl, rfl, rfl, rfl, rfl⟩)
    (hdb : (x == ("__debug__" : Str)) = false := by decide) (he : starEach (e :: es) X.env = (false, eval e X.env) :: starEach es X.env := by rfl) (hpl : (backTo pos (starEach es X.env)).any (·.1) = false := by rfl) :
    PE X (.Call (.Name x p) (e :: es) [] pos) (tCallSD sp dvs E t) := by
  obtain ⟨f, fd, ds, G, h1, h2, h3, h4⟩ := c
  exact pe_callSD (z.ok G) hr hg (by rw [z.mg]; exact h1) (by rw [z.K]; exact h2) (by rw [z.K]; exact h3) h4 hx ha hdb he hpl
def tMakeS (C : Addr) (sp : Sp) (dvs : List V) (E : L2.St → XK) (t : TA) : TE := fun σ H Q => t σ H fun vs H1 => ∀ x dx, H1 x = none → H1 dx = none → dx ≠ x →
  sp (.ref x :: (vs ++ dvs)) (upd (upd H1 dx (.own x)) x (.ins C dx [])) (fun v H2 => v = .non ∧ Q (.ref x) H2) (E σ)
theorem pe_calCS (c : CalC Z CX k C x ps dvs sp) (hr : Room (k + 1) X.A) (hg : Gl X x) (hx : ∀ σ, PassesAt CX X σ (E σ)) (ha : PA X (e :: es) t) (z : InZ Z X := by exact ⟨rfl, rfl, rfl, rfl, rfl⟩)
    (hdb : (x == ("__debug__" : Str)) = false := by decide) (he : starEach (e :: es) X.env = (false, eval e X.env) :: starEach es X.env := by rfl) (hpl : (backTo pos (starEach es X.env)).any (·.1) = false := by rfl) :
    PE X (.Call (.Name x p) (e :: es) [] pos) (tMakeS C sp dvs E t) := by
  obtain ⟨f, fd, ds, G, M, h2, hb, hd⟩ := c
  have F := z.ok G
  rw [← z.K] at M hb
  refine ⟨fun pins s σ H Q I h => ?_⟩
  refine wpAny_Call_Name_kw (ld_glob I hg (by rw [z.mg]; exact h2) ?_ hdb)
  refine PySem.W.callWith_K (h₀ := X.base) I.ok.mod.kin M.kp (thn (ha.run pos pins s σ H _ I h) fun us s1 ⟨vs, H1, I1, r, q⟩ => ⟨I1.kIn, ?_⟩) he hpl
  have q1 := q (s1.heap.objs.size + 1) s1.heap.objs.size (I1.hok.fresh (Nat.le_succ _)) (I1.hok.fresh (Nat.le_refl _)) (Nat.ne_of_lt (Nat.lt_succ_self _))
  have I2 := Inv.made (C := C) I1
  have r2 : Vals (V.ref (s1.heap.objs.size + 1) :: (vs ++ dvs)) (Value.ref (s1.heap.objs.size + 1) :: (us ++ ds)) := .cons rfl (r.append hd)
  have hl : (Value.ref (s1.heap.objs.size + 1) :: us ++ ds).length = ps.length := r2.length.symm.trans (F.len _ _ _ _ q1)
  have run := F.run _ X.stack _ _ ⟨Value.ref (s1.heap.objs.size + 1) :: us, []⟩ (Value.ref (s1.heap.objs.size + 1) :: (us ++ ds)) _ _ (E σ) (hr.make C us []) (I2.env0.make C us []) (hb _ (Value.ref (s1.heap.objs.size + 1) :: us) I2.kIn hl) r2 q1
  refine wpAny_call (make_map (f := f) I1.kIn M.makes M.init (beq_iff_eq.mp M.fn) (codeAny_mono run fun rr s' hq' => ?_))
  cases rr with
  | error e => exact hx σ pins _ _ e s' I2 hq'
  | ok fl =>
    cases fl with
    | ret u =>
      obtain ⟨v, H', I3, rv, ev, q3⟩ := I2.after hq'
      subst ev
      exact ⟨rv, ⟨V.ref (s1.heap.objs.size + 1), H', I3, rfl, q3⟩⟩
    | next => exact False.elim hq'
    | brk => exact False.elim hq'
    | cont => exact False.elim hq'
def tMethS' (C : Addr) (m : Str) (sp : Sp) (dvs : List V) (E : L2.St → XK) (ta : TE) (t : TA) : TE := fun σ H Q => ta σ H fun x H1 => ∃ a dx fs, x = .ref a ∧ H1 a = some (.ins C dx fs) ∧ fs.lookup m = none ∧
  t σ H1 fun vs H2 => sp (x :: (vs ++ dvs)) H2 Q (E σ)
theorem pe_calMS {pl : Sem Bool} (c : CalM Z CX k C m ps dvs sp) (hr : Room k X.A) (hx : ∀ σ, PassesAt CX X σ (E σ)) (he : PE X o ta) (ha : PA X (e :: es) t) (z : InZ Z X := by exact ⟨rfl, rfl, rfl, rfl, rfl⟩)
    (hst : starEach (e :: es) X.env = (false, eval e X.env) :: starEach es X.env := by rfl) (hpl : (backTo pos (starEach es X.env)).any (·.1) = false := by rfl)
    (ht : eval (.Call (.Attribute o m apos) (e :: es) [] pos) X.env = (do
      let ov ← eval o X.env
      standAt apos.atName
      let (f, first) ← holding [ov] (getMethod ov m pl)
      callWith pos f first (backTo pos (starEach (e :: es) X.env)) (backToKw pos (keywordEach [] X.env))) := by rfl) :
    PE X (.Call (.Attribute o m apos) (e :: es) [] pos) (tMethS' C m sp dvs E ta t) := by
  obtain ⟨f, fd, ds, G, hm, cl, hb, hd⟩ := c
  rw [← z.K] at hm cl hb
  refine ⟨fun pins s σ H Q I h => ?_⟩
  refine PySem.W.methodCall_KW (pl := pl) (thn (he.run pins s σ H _ I h) fun u s1 ⟨x, H1, I1, rx, a, dx, fs, ex, ea, l, q⟩ => ?_) ht
  subst ex
  obtain rfl : u = Value.ref a := rx
  refine getmeth_ok I1 ea cl hm l ?_
  refine PySem.W.callWith_K (first := [.ref a]) (h₀ := X.base) I.ok.mod.kin hm.kp (thn (ha.run pos pins s1 σ H1 _ I1 q) fun us s2 ⟨vs, H2, I2, r, q2⟩ => ⟨I2.kIn, ?_⟩) hst hpl
  exact run_fnSD (us := .ref a :: us) (vs := .ref a :: vs) (z.ok G) hr hb hd (hx σ) I2 (.cons rfl r) q2
end
/-! ### while an error is handled -/
/-- a def, called so -/
def CalH (Z : Cz) (k : Nat) (x : Str) (ps : List Str) (sp : Sp) : Prop := ∃ f fd, L2H.FnH Z.P Z.w Z.K Z.mg Z.base CX0 k f fd ps sp ∧ Z.mg x = some (.ref f) ∧ PySem.W.keepIn Z.K (.ref f) = true ∧ Binds Z.K fd ps []
def CalMH (Z : Cz) (k : Nat) (C : Addr) (m : Str) (ps : List Str) (sp : Sp) : Prop := ∃ f fd, L2H.FnH Z.P Z.w Z.K Z.mg Z.base CX0 k f fd ps sp ∧ Meth Z.K C m f ∧ Cls Z.K C ∧ Binds Z.K fd ps []
def CalSH (Z : Cz) (k : Nat) (C : Addr) (m : Str) (ps : List Str) (sp : Sp) : Prop := ∃ f fd, L2H.FnH Z.P Z.w Z.K Z.mg Z.base CX0 k f fd ps sp ∧ OwnOp Z.K C f m ∧ Binds Z.K fd ps []
theorem passAt0 {X : Cx} (σ : L2.St) : PassesAt CX0 X σ E0 := fun _ _ _ _ _ _ h => h.elim
section
variable {Z : Cz} {X : Cx} {k : Nat} {C : Addr} {ps : List Str} {sp : Sp} {x m : Str} {p pos apos : Pos} {e o : Expr} {es : List Expr} {ta : TE} {t : TA}
theorem okHz {f : Addr} {fd : FuncData} (z : InZ Z X) (G : L2H.FnH Z.P Z.w Z.K Z.mg Z.base CX0 k f fd ps sp) : L2H.FnH X.prog X.w X.K X.mg X.base CX0 k f fd ps sp := by
  obtain ⟨h1, h2, h3, h4, h5⟩ := z
  rw [h1, h2, h3, h4, h5]
  exact G
theorem pe_calH (c : CalH Z k x ps sp) (hr : L2H.RoomH k X.A) (hc : L2H.HotC X) (hg : Gl X x) (ha : PA X (e :: es) t) (z : InZ Z X := by exact ⟨rfl, rfl, rfl, rfl, rfl⟩)
    (hdb : (x == ("__debug__" : Str)) = false := by decide) (he : starEach (e :: es) X.env = (false, eval e X.env) :: starEach es X.env := by rfl) (hpl : (backTo pos (starEach es X.env)).any (·.1) = false := by rfl) :
    PE X (.Call (.Name x p) (e :: es) [] pos) (tCallS sp (fun _ => E0) t) := by
  obtain ⟨f, fd, G, h1, h2, h3⟩ := c
  exact L2H.pe_callH (okHz z G) hr hc hg (by rw [z.mg]; exact h1) (by rw [z.K]; exact h2) (by rw [z.K]; exact h3) (fun σ => passAt0 σ) ha hdb he hpl
theorem pe_calMH {pl : Sem Bool} (c : CalMH Z k C m ps sp) (hr : L2H.RoomH k X.A) (hc : L2H.HotC X) (he : PE X o ta) (ha : PA X (e :: es) t) (z : InZ Z X := by exact ⟨rfl, rfl, rfl, rfl, rfl⟩)
    (hst : starEach (e :: es) X.env = (false, eval e X.env) :: starEach es X.env := by rfl) (hpl : (backTo pos (starEach es X.env)).any (·.1) = false := by rfl)
    (ht : eval (.Call (.Attribute o m apos) (e :: es) [] pos) X.env = (do
      let ov ← eval o X.env
      standAt apos.atName
      let (f, first) ← holding [ov] (getMethod ov m pl)
      callWith pos f first (backTo pos (starEach (e :: es) X.env)) (backToKw pos (keywordEach [] X.env))) := by rfl) :
    PE X (.Call (.Attribute o m apos) (e :: es) [] pos) (L2H.tMethH C m sp (fun _ => E0) ta t) := by
  obtain ⟨f, fd, G, h1, h2, h3⟩ := c
  exact L2H.pe_methH (pl := pl) he (by rw [z.K]; exact h2) (by rw [z.K]; exact h1) (okHz z G) hr hc (by rw [z.K]; exact h3) (fun σ => passAt0 σ) ha hst hpl ht
theorem op_cmpH {op : CmpOp} (c : CalSH Z k C (cmpInfo op).2.1 ps sp) (hr : L2H.RoomH k X.A) (hc : L2H.HotC X) (z : InZ Z X := by exact ⟨rfl, rfl, rfl, rfl, rfl⟩) (hop : ∀ a b, compareOp op a b = richCompare op a b := by intro _ _; rfl) : OpR X (compareOp op) (rCmp Z.K C sp E0) := by
  obtain ⟨f, fd, G, h1, h2⟩ := c
  have z' := z
  obtain ⟨e1, e2, e3, e4, e5⟩ := z
  intro pins s σ H x y v u Q I rx ry h
  obtain ⟨⟨a, dx, fs, rfl, ha⟩, ⟨t, ty, ht⟩, h⟩ := h
  cases (show v = Value.ref a from rx)
  rw [← e3] at ty ht h1 h2
  obtain ⟨mA, J0, _⟩ := ins_get I.hok ha
  obtain ⟨od, J, _⟩ := J0.look
  obtain ⟨P, Zk, p, _⟩ := kit_of I ry ty
  obtain ⟨m, hF⟩ := I.fr
  rw [hop]
  refine PySem.W.cmp_K (by have := hr.un; omega) hF I.ok.mod.kin J (Zk.ty (model X.prog X.w) s.heap I.kIn p) ht h1.fn h1.isf ?_
  exact wpAny_mono (L2H.run_fnH (E := fun _ => E0) (us := [.ref a, u]) (vs := [.ref a, y]) (okHz z' G) hr hc h2 (passAt0 σ) I (.cons rfl (.cons ry .nil)) h) (fun _ _ z => cmpBack z) fun _ _ z => z
/-- in a suite -/
theorem hotS {a : Addr} {oe : Obj} {cls : Value} {d : Option Addr} {pn : List (Addr × Obj)} (hz : L2N.Zn cls d oe) (hf : ∃ vs, oe.data = .fields vs) : L2H.HotC (X.suite a ((a, oe) :: pn)) := by
  obtain ⟨vs, hd⟩ := hf
  exact ⟨(a, oe), ⟨rfl, vs, hd, hz.2.2 vs hd⟩, List.mem_cons_self⟩
theorem roomS {a : Addr} {pn : List (Addr × Obj)} (hr : Room k X.A) : L2H.RoomH k (X.suite a pn).A := ⟨hr.dp, hr.un⟩
/-- in a def that was called so -/
theorem hotD {CX : CXT} {P : Program} {w : World} {K : PySem.W.Frag} {mg : Str → Option Value} {base : Heap} {N : List Str} {qual : Str} {scope : Scope} {f : Addr} {cd : Value} {A : Around} {outer : List Env} {s : Shared} {H : Hp} {E : XK} {q : Addr × Obj} (h : L2H.Hot1 A q) :
    L2H.HotC (L2H.cxH CX P w K mg base N qual scope f cd A outer s H E q) := ⟨q, h, List.mem_cons_self⟩
end
end Ps

/-! Defs that are called where no repr is running (Around.guards is the empty list): they may tell the repr of lists, tuples, dicts. -/
namespace Ps
open PySem PySem.Spec PyProof.Rows L2

structure FnG (P : Program) (w : World) (K : PySem.W.Frag) (mg : Str → Option Value) (base : Heap) (CX : CXT) (k : Nat) (f : Addr) (fd : FuncData) (ps : List Str) (sp : Sp) : Prop where
  len : ∀ vs H Q E, sp vs H Q E → vs.length = ps.length
  run : ∀ (A : Around) (outer : List Env) (s : Shared) (H : Hp) (args : Args) (us : List Value) (vs : List V) (Q : VK) (E : XK), Room k A → A.guards = some [] → Env0 P w K mg base A outer s H → BindsTo s fd args (ps.zip us) → Vals vs us → sp vs H Q E →
    codeAny (model P w) A (.call (.ref f) args) (CR CX outer P w H s Q E) s
theorem guards_deeper (A : Around) (env : Env) : (A.deeper env).guards = A.guards := rfl
section
variable {P : Program} {w : World} {K : PySem.W.Frag} {mg : Str → Option Value} {base : Heap}
theorem Fun.okG {x qual : Str} {st : Stmt} {f : Addr} {fd : FuncData} {N ps : List Str} {k : Nat} {sp : Sp} {CX : CXT} (F : Fun K x qual st f fd) (S : FnScope N ps (defScope st)) (len : ∀ vs H Q E, sp vs H Q E → vs.length = ps.length)
    (hbody : ∀ (cdv : Value) (A : Around) (outer : List Env) (s : Shared) (H : Hp) (vs : List V) (Q : VK) (E : XK), Room k (A.deeper (envOfC qual (defScope st) s.heap.objs.size f cdv)) → A.guards = some [] → sp vs H Q E →
      ∃ t, PSs (cxOf CX P w K mg base N qual (defScope st) f cdv A outer s H E) (defBody st) t ∧ t { nx := fun _ H' => Q .non H', rt := Q } (start N vs) H) : FnG P w K mg base CX (k + 1) f fd ps sp := by
  obtain ⟨oc, od, kV, doc, pm, an, cdv, ct, osl, rfl, lk, hcd⟩ := F.ex
  refine ⟨len, fun A outer s H args us vs Q E hr hg e0 hb r hsp => ?_⟩
  have KX : K.In s.heap := e0.mod.kin.keeps fun b o e => (e0.bs b o e).1
  have hkind : ∀ y ∈ ps.zip us, (defScope st).names.lookup y.1 = some .local ∨ ((defScope st).names.lookup y.1 = some .cell ∧ ((cellsFrom (s.heap.objs.size + 1) (defScope st).names []).lookup y.1).isSome = true) := fun y hy =>
    (S.par y.1 (List.of_mem_zip (show (y.1, y.2) ∈ ps.zip us from hy)).1).imp id fun q => ⟨q, PySem.W.cellsFrom_some _ _ _ (.inl q)⟩
  obtain ⟨t, ht, hq⟩ := hbody cdv A outer s H vs Q E (hr.deeper _) hg hsp
  refine codeAny_call_function hr.depth (KX _ _ lk) rfl S.co S.gen rfl (PySem.W.codeRec_of KX hcd) (hb _ _ _ _ (wpAny_newFunctionEnv_cells S.kind hkind fun env he s1 x => ?_))
  subst he
  have lim : s.heap.NoLimit := e0.mod.nolimit.keeps fun b o e => (e0.bs b o e).1
  refine ⟨lim.keeps x.toInCall.keep, codeAny_func ?_⟩
  have I := inv_start (CX := CX) (E := E) S hr.hd e0 (len _ _ _ _ hsp) r x
  refine wpAny_mono (ht.run [] s1 _ H _ I hq) (fun fl s' hs => ?_) fun e s' hs => hs
  cases fl with
  | ret u => obtain ⟨v, σ', H', J, rv, q⟩ := hs; exact ⟨v, H', J.os, J.bare, J.base, J.hok, rv, q⟩
  | next => obtain ⟨σ', H', J, q⟩ := hs; exact ⟨V.non, H', J.os, J.bare, J.base, J.hok, rfl, q⟩
  | brk => obtain ⟨_, _, _, q⟩ := hs; exact False.elim q
  | cont => obtain ⟨_, _, _, q⟩ := hs; exact False.elim q
theorem FnOk.toG {CX : CXT} {k : Nat} {f : Addr} {fd : FuncData} {ps : List Str} {sp : Sp} (F : FnOk P w K mg base CX k f fd ps sp) : FnG P w K mg base CX k f fd ps sp :=
  ⟨F.len, fun A outer s H args us vs Q E hr _ e0 hb r h => F.run A outer s H args us vs Q E hr e0 hb r h⟩
end
/-- such a def -/
def CalG (Z : Cz) (CX : CXT) (k : Nat) (x : Str) (ps : List Str) (sp : Sp) : Prop := ∃ f fd, FnG Z.P Z.w Z.K Z.mg Z.base CX k f fd ps sp ∧ Z.mg x = some (.ref f) ∧ PySem.W.keepIn Z.K (.ref f) = true ∧ Binds Z.K fd ps []
section
variable {Z : Cz} {X : Cx} {CX : CXT} {k : Nat} {ps : List Str} {sp : Sp} {x : Str} {p pos : Pos} {e : Expr} {es : List Expr} {t : TA} {E : XK}
theorem pe_calG (c : CalG Z CX k x ps sp) (hr : Room k X.A) (hgd : X.A.guards = some []) (hg : Gl X x) (hx : Passes CX X E) (ha : PA X (e :: es) t) (z : InZ Z X := by exact ⟨rfl, rfl, rfl, rfl, rfl⟩)
    (hdb : (x == ("__debug__" : Str)) = false := by decide) (he : starEach (e :: es) X.env = (false, eval e X.env) :: starEach es X.env := by rfl) (hpl : (backTo pos (starEach es X.env)).any (·.1) = false := by rfl) :
    PE X (.Call (.Name x p) (e :: es) [] pos) (tCall sp [] E t) := by
  obtain ⟨f, fd, G, h1, h2, h3⟩ := c
  obtain ⟨e1, e2, e3, e4, e5⟩ := z
  rw [← e1, ← e2, ← e3, ← e4, ← e5] at G
  rw [← e4] at h1
  rw [← e3] at h2 h3
  refine ⟨fun pins s σ H Q I h => ?_⟩
  refine wpAny_Call_Name_kw (ld_glob I hg h1 ?_ hdb)
  refine PySem.W.callWith_K (h₀ := X.base) I.ok.mod.kin h2 (thn (ha.run pos pins s σ H _ I h) fun us s1 ⟨vs, H1, I1, r, q⟩ => ⟨I1.kIn, ?_⟩) he hpl
  have q : sp (vs ++ []) H1 Q E := q
  rw [List.append_nil] at q
  have hl : us.length = ps.length := r.length.symm.trans (G.len _ _ _ _ q)
  have b := h3 s1 us I1.kIn (by rw [List.append_nil]; exact hl)
  rw [List.append_nil] at b
  refine wpAny_call (codeAny_mono (G.run X.A X.stack s1 H1 ⟨us, []⟩ us vs Q E hr hgd I1.env0 b r q) fun rr s' hq => ?_)
  cases rr with
  | error e => exact hx pins σ H1 s1 e s' I1 hq
  | ok fl =>
    cases fl with
    | ret u => exact I1.after hq
    | next => exact False.elim hq
    | brk => exact False.elim hq
    | cont => exact False.elim hq
end
/-! ### repr -/
section
variable {X : Cx}
theorem reads_flat {h : Heap} {v : Value} {d : PyData} {as : List Addr} (r : Reads h v d as) : (∃ a, v = .ref a) ∨ ∀ a, v ≠ .ref a := by
  cases v <;> first | exact .inl ⟨_, rfl⟩ | exact .inr fun a z => nomatch z
def rRepr (K : PySem.W.Frag) : List V → Hp → VK → Prop := fun xs H Q => ∃ (v : V) (d : PyData), xs = [v] ∧ Dp K H v d ∧ d.showable = true ∧ d.hasDict = false ∧ d.depth ≤ 60 ∧ d.shown.length ≤ sizeLine ∧ Q (.str d.shown) H
theorem call_repr (hg : X.A.guards = some []) (hu : X.A.units + 64 < cLine) : CallR X (.builtin "repr") (rRepr X.K) := by
  intro pins s σ H xs us Q I r h
  obtain ⟨v, d, rfl, hd, hs, hn, hdp, hz, q⟩ := h
  obtain ⟨u, rfl, r1⟩ := vals1 r
  obtain ⟨as, rd⟩ := Dp.reads I d v u hd r1
  rcases reads_flat rd with ⟨a, rfl⟩ | hf
  · exact repr_of_reads' rd hs (PyData.noDict_hsm hn) hg (by omega) (fun _ _ e => e) (fun h' tu tk k => ⟨.str d.shown, H, I.kept (t' := tk) k, ⟨_, rfl⟩, q⟩) hz
  · cases hd with
    | non => cases r1; exact PySem.P.repr_of_none ⟨.str _, H, I.tok _, ⟨_, rfl⟩, q⟩
    | bl b => cases r1; exact PySem.P.repr_of_bool ⟨.str _, H, I.tok _, ⟨_, rfl⟩, q⟩
    | int i => obtain ⟨t, rfl⟩ := r1; exact PySem.P.repr_of_int (of_decide_eq_true hs) ⟨.str _, H, I.tok _, ⟨_, rfl⟩, q⟩
    | str x => obtain ⟨t, rfl⟩ := r1; exact PySem.P.repr_of_str ⟨.str _, H, I.tok _, ⟨_, rfl⟩, q⟩ hz
    | lst _ _ => cases r1; exact absurd rfl (hf _)
    | tup _ _ => cases r1; exact absurd rfl (hf _)
end
/-! ### the end of a law that is called so -/
section
variable {P : Program} {w : World} {K : PySem.W.Frag} {mg mb : Str → Option Value} {CX : CXT} {k : Nat} {fa a : Addr} {fd : FuncData} {x : Str} {sp : Sp} {s : Shared}
/-- the call over an abstract heap that tracks at most the script -/
theorem call_from {H : Hp} (KX : K.In s.heap) (hns : s.heap.Ns mainGlobals mg) (hb : s.heap.Ns builtinsNs mb) (hbb : ∀ x : Str, x ≠ "__name__" → mb x = bootBuiltins x) (hlim : s.heap.NoLimit) (hg : s.gens = #[])
    (hr : Room k callerA) (F : ∀ base : Heap, K.In base → base.Ns mainGlobals mg → FnG P w K mg base CX k fa fd [x] sp) (hbind : ∀ (s : Shared) (u : Value), BindsTo s fd ⟨[u], []⟩ [(x, u)])
    (hsp : sp [.ref a] H (fun v _ => v = .bl true) fun _ _ _ => False) (hCX : ∀ H e s', CX [] H s (fun _ _ _ => False) e s' → False)
    (hO : Only H) (hok : HOk P w H s.heap) (hK : ∀ b o, K.lookup b = some o → H b = none) (hD : ∀ b o es ep, s.heap.get? b = some o → o.data = .dict es ep → H b = none) :
    codeAny (model P w) callerA (.call (.ref fa) ⟨[.ref a], []⟩) (fun r s' => r = .ok (.ret (.bool true)) ∧ OldK s.heap s'.heap ∧ s'.os = s.os ∧ AllBare s'.gens) s := by
  have nsK : ∀ {b : Addr} {m : Str → Option Value}, s.heap.Ns b m → (hidT s.heap H).Ns b m := fun {b m} ⟨o, es, ep, e, d, r⟩ => ⟨o, es, ep, hidT_get e (hD b o es ep e d), d, r⟩
  have hKb : K.In (hidT s.heap H) := fun b o e => hidT_get (KX b o e) (hK b o e)
  obtain ⟨mc, l1, l2⟩ := hlim
  have e0 : Env0 P w K mg (hidT s.heap H) callerA [] s H :=
    ⟨rfl, ⟨hKb, nsK hns, ⟨mb, nsK hb, hbb⟩, ⟨mc, nsK l1, l2⟩⟩, fun b o e => of_hidT e, Nat.le_of_eq (hidT_size _ _), trivial, fun b hb => absurd (show b ∈ ([] : List Addr) from hb) (by simp), hok, .of_eq hg⟩
  refine codeAny_mono ((F _ hKb (nsK hns)).run callerA [] s H ⟨[.ref a], []⟩ [.ref a] [.ref a] _ _ hr rfl e0 (hbind s (.ref a)) (.cons rfl .nil) hsp) fun r s' h => ?_
  cases r with
  | error e => exact (hCX H e s' h).elim
  | ok fl =>
    cases fl with
    | next => exact False.elim h
    | brk => exact False.elim h
    | cont => exact False.elim h
    | ret u =>
      obtain ⟨v, H', os, bare, un, hok', r', q⟩ := h
      obtain rfl : v = .bl true := q
      obtain rfl : u = Value.bool true := r'
      refine ⟨rfl, OldK.of_keep fun b o e => ?_, os, bare⟩
      rcases hO b with z | ⟨ob, xs, z⟩
      · exact un.keep b o e z (fun y => absurd (show b ∈ ([] : List Addr) from y) (by simp)) (by simp)
      · obtain ⟨e1, _⟩ := hok b _ z
        obtain ⟨e2, _⟩ := hok' b _ (un.frzs b ob _ z)
        exact (Option.some.inj (e1.symm.trans e)) ▸ e2
end
theorem walk_G {l : PySem.W.OpenLaw} {n k : Nat} {q : Program} {loose : List Str} {XP : (Str → Option Value) → Heap → Prop} {YP : World → Heap → Prop} {d : DefRec} {CX : CXT} {x : Str}
    (hn : l.most = some n) (hn2 : n ≤ sizeLine) (hdf : d.params.defaults = []) (hr : Room k callerA)
    (F : ∀ (w : World) (mg : Str → Option Value) (fa : Addr) (h : Heap), YP w h → h.Ns mainGlobals mg → mg d.name = some (.ref fa) →
      ∃ (K : PySem.W.Frag) (fd : FuncData) (sp : Sp), K.In h ∧ (∀ (s : Shared) (u : Value), BindsTo s fd ⟨[u], []⟩ [(x, u)]) ∧
        (∀ (H : Hp) (a : Addr) (ns : List Int), ns.length ≤ n → Only H → SqL K H a (ns.map V.int) → sp [.ref a] H (fun v _ => v = .bl true) fun _ _ _ => False) ∧
        ∀ base : Heap, K.In base → base.Ns mainGlobals mg → FnG l.prog w K mg base CX k fa fd [x] sp)
    (hCX : ∀ (H : Hp) (s : Shared) (e : Value) (s' : Shared), CX [] H s (fun _ _ _ => False) e s' → False) :
    PySem.W.WalkO q loose XP YP l.row.toRowW d [] (fun f vs => PySem.call f vs) := by
  refine Att.attach_call hn hdf fun w s₀ s₁ mg mb fa o pm cd doc a vs ns G Y ho hd hcd hmg hobj hints hlen hg => ?_
  obtain ⟨K, fd, sp, KX, hb, hsp, hF⟩ := F w mg fa _ Y G.T.g hmg
  have rv := vals_ints hints
  have hsz : ns.length ≤ sizeLine := Nat.le_trans hlen hn2
  have noD : ∀ b o es ep, s₁.heap.get? b = some o → o.data = .dict es ep → b ≠ a := fun b o es ep e d z => by
    subst z
    rw [hobj] at e
    cases e
    exact nomatch (show Data.seq vs.toArray _ = Data.dict es ep from d)
  cases hk : K.lookup a with
  | some ob =>
    have e := KX a ob hk
    rw [hobj] at e
    cases e
    have hS : SqL K (fun _ => none) a (ns.map V.int) := .inr ⟨_, vs.toArray, _, hk, rfl, rfl, rfl, by rw [List.size_toArray, hints.length]; exact hsz, by simpa using rv⟩
    exact call_from KX G.T.g G.T.b G.T.builtins G.T.nolimit hg hr hF hb (hsp _ a ns hlen (fun _ => .inl rfl) hS) (fun H e s' => hCX H s₁ e s') (fun _ => .inl rfl) (fun b u z => by have z' : (none : Option HO) = some u := z; cases z') (fun _ _ _ => rfl) (fun _ _ _ _ _ _ => rfl)
  | none =>
    have at_ : ∀ b, (if b = a then some (HO.frz { cls := .type "list", data := .seq vs.toArray } (.lst (ns.map V.int))) else none) = none ∨ b = a := fun b => by
      by_cases h : b = a
      · exact .inr h
      · exact .inl (if_neg h)
    have hO : Only (fun b => if b = a then some (HO.frz { cls := .type "list", data := .seq vs.toArray } (.lst (ns.map V.int))) else none) := fun b => by
      by_cases h : b = a
      · exact .inr ⟨_, _, if_pos h⟩
      · exact .inl (if_neg h)
    refine call_from KX G.T.g G.T.b G.T.builtins G.T.nolimit hg hr hF hb (hsp _ a ns hlen hO (.inl (.inr ⟨{ cls := .type "list", data := .seq vs.toArray }, if_pos rfl⟩))) (fun H e s' => hCX H s₁ e s') hO (fun b u z => ?_) (fun b o e => ?_) (fun b o es ep e d => if_neg (noD b o es ep e d))
    · by_cases h : b = a
      · subst h
        cases (if_pos rfl).symm.trans z
        exact ⟨hobj, by rw [List.length_map]; exact hsz, vs, _, rv, hobj⟩
      · cases (if_neg h).symm.trans z
    · refine if_neg fun z => ?_
      subst z
      rw [hk] at e
      cases e
end Ps

/-! A lambda x: str(x) as the key of a sort; tables that grow. -/
namespace Ps
open PySem PySem.Spec PyProof.Rows PySem.W L2 LamX

/-! ### tables that grow -/
/-- all that is tracked stays, but p, and tables, which grow as they may -/
structure Gr (T : List (Addr × Str)) (p : Option Addr) (H H' : Hp) : Prop where
  x : ∀ b o, some b ≠ p → H b = some o → (∀ ps, o ≠ .tbl ps) → H' b = some o
  t : Tabs T H → Tabs T H'
  f : ∀ b, H' b = none → H b = none
abbrev Grow (T : List (Addr × Str)) : Hp → Hp → Prop := Gr T none
section
variable {T : List (Addr × Str)} {p : Option Addr} {H H1 H2 : Hp}
theorem Gr.refl (H : Hp) : Gr T p H H := ⟨fun _ _ _ h _ => h, fun h => h, fun _ h => h⟩
theorem Gr.trans (a : Gr T p H H1) (b : Gr T p H1 H2) : Gr T p H H2 := ⟨fun c o hc h n => b.x c o hc (a.x c o hc h n) n, fun h => b.t (a.t h), fun c h => a.f c (b.f c h)⟩
theorem Gr.of (e : Same H H1) : Gr T p H H1 := ⟨fun b o _ h _ => e b o h, fun h => h.ext e, fun b h => e.free h⟩
theorem Gr.up (g : Gr T none H H1) : Gr T p H H1 := ⟨fun b o _ h n => g.x b o (by simp) h n, g.t, g.f⟩
theorem Gr.new {l : Addr} {o : HO} (n : H l = none) : Gr T p H (upd H l o) := .of fun b u e => by
  rw [upd_ne (ne_of_none e n)]
  exact e
theorem Gr.at {b : Addr} {o : HO} (g : Gr T p H H1) (h : H b = some o) (hb : some b ≠ p := by simp) (n : ∀ ps, o ≠ .tbl ps := by intro _ z; cases z) : H1 b = some o := g.x b o hb h n
/-- what is no table and no code object is put -/
theorem tabs_put (t : Tabs T H1) {D : Addr} {u o : HO} (hD : H1 D = some u) (n1 : ∀ ps, u ≠ .tbl ps) (n2 : ∀ c q, u ≠ CodeO c q) : Tabs T (upd H1 D o) := fun m hm => by
  obtain ⟨ps, e1, e2, e3⟩ := t m hm
  refine ⟨ps, ?_, e2, fun pos cv hc => ?_⟩
  · rw [upd_ne fun z => n1 ps (by rw [← z, e1] at hD; exact (Option.some.inj hD).symm)]
    exact e1
  · obtain ⟨c, z1, z2⟩ := e3 pos cv hc
    refine ⟨c, z1, ?_⟩
    rw [upd_ne fun z => n2 c m.2 (by rw [← z, z2] at hD; exact (Option.some.inj hD).symm)]
    exact z2
theorem upd_free {D : Addr} {o : HO} (f : ∀ b, H1 b = none → H b = none) {b : Addr} (h : upd H1 D o b = none) : H b = none := by
  by_cases z : b = D
  · subst z
    rw [upd_same] at h
    cases h
  · rw [upd_ne z] at h
    exact f b h
theorem Gr.put (g : Gr T p H H1) {D : Addr} {xs : List V} {o : HO} (n : H D = none) (hD : H1 D = some (.lst xs)) : Gr T p H (upd H1 D o) :=
  ⟨fun b u hb h nt => by
    rw [upd_ne (ne_of_none h n)]
    exact g.x b u hb h nt, fun h => tabs_put (g.t h) hD (fun _ z => by cases z) (fun _ _ z => by cases z), fun b h => upd_free g.f h⟩
theorem Gr.putD (g : Gr T p H H1) {D : Addr} {xs : List (Key × V)} {o : HO} (n : H D = none) (hD : H1 D = some (.dK xs)) : Gr T p H (upd H1 D o) :=
  ⟨fun b u hb h nt => by
    rw [upd_ne (ne_of_none h n)]
    exact g.x b u hb h nt, fun h => tabs_put (g.t h) hD (fun _ z => by cases z) (fun _ _ z => by cases z), fun b h => upd_free g.f h⟩
/-- only p was changed -/
theorem Gr.only {l : Addr} {xs : List V} {o : HO} (hl : H l = some (.lst xs)) (hl1 : H1 l = some o) (e : ∀ b, b ≠ l → H1 b = H b) : Gr T (some l) H H1 :=
  ⟨fun b o hb h _ => by
    rw [e b fun z => hb (by rw [z])]
    exact h, fun t m hm => by
    obtain ⟨ps, e1, e2, e3⟩ := t m hm
    refine ⟨ps, ?_, e2, fun pos cv hc => ?_⟩
    · rw [e _ fun z => by rw [z, hl] at e1; cases e1]
      exact e1
    · obtain ⟨c, z1, z2⟩ := e3 pos cv hc
      refine ⟨c, z1, ?_⟩
      rw [e _ fun z => by rw [z, hl] at z2; cases z2]
      exact z2, fun b h => by
    by_cases z : b = l
    · subst z
      rw [hl1] at h
      cases h
    · rw [← e b z]
      exact h⟩
theorem Gr.seqT {K : Frag} {a : Addr} {xs : List V} (g : Gr T p H H1) (h : SqT K H a xs) (ha : some a ≠ p := by simp) : SqT K H1 a xs := by
  rcases h with (h | ⟨o, h⟩) | h
  · exact .inl (.inl (g.x _ _ ha h fun _ z => by cases z))
  · exact .inl (.inr ⟨o, g.x _ _ ha h fun _ z => by cases z⟩)
  · exact .inr h
theorem Gr.rdK {a : Addr} {kvs : List (Key × V)} (g : Gr T p H H1) (h : Rd H a (.dK kvs)) (ha : some a ≠ p := by simp) : Rd H1 a (.dK kvs) := by
  rcases h with h | ⟨o, h⟩
  · exact .inl (g.x _ _ ha h fun _ z => by cases z)
  · exact .inr ⟨o, g.x _ _ ha h fun _ z => by cases z⟩
theorem tyX_x {K : Frag} {v : V} {t : Value} (e : ∀ b o, H b = some o → (∀ ps, o ≠ .tbl ps) → H1 b = some o) (h : TyX K H v t) : TyX K H1 v t := by
  have e' : ∀ {b : Addr} {o : HO}, H b = some o → (∀ ps, o ≠ .tbl ps) → H1 b = some o := fun h n => e _ _ h n
  cases h with
  | base h =>
    refine .base ?_
    cases h with
    | non => exact .non
    | bl x => exact .bl x
    | int i => exact .int i
    | str x => exact .str x
    | flt x => exact .flt x
    | lst h => exact .lst (e' h fun _ z => by cases z)
    | frz h => exact .frz (e' h fun _ z => by cases z)
    | tup h => exact .tup (e' h fun _ z => by cases z)
    | dK h => exact .dK (e' h fun _ z => by cases z)
    | dT h => exact .dT (e' h fun _ z => by cases z)
    | ins h cl ha hn htk hm => exact .ins (e' h fun _ z => by cases z) cl ha hn htk hm
  | byt b => exact .byt b
  | set h => exact .set (e' h fun _ z => by cases z)
  | kList h c => exact .kList h c
  | kTuple h c => exact .kTuple h c
  | kDict h c => exact .kDict h c
  | fTuple h => exact .fTuple (e' h fun _ z => by cases z)
  | fDict h => exact .fDict (e' h fun _ z => by cases z)
theorem Gr.ty {K : Frag} {v : V} {t : Value} (g : Gr T none H H1) (h : TyX K H v t) : TyX K H1 v t := tyX_x (fun b o h n => g.x b o (by simp) h n) h
theorem tyX_same {K : Frag} {v : V} {t : Value} (e : Same H H1) (h : TyX K H v t) : TyX K H1 v t := tyX_x (fun b o h _ => e b o h) h
theorem Gr.seq {K : Frag} {a : Addr} {xs : List V} (g : Gr T p H H1) (h : SqL K H a xs) (ha : some a ≠ p := by simp) : SqL K H1 a xs := by
  rcases h with (h | ⟨o, h⟩) | h
  · exact .inl (.inl (g.x _ _ ha h fun _ z => by cases z))
  · exact .inl (.inr ⟨o, g.x _ _ ha h fun _ z => by cases z⟩)
  · exact .inr h
end
/-! ### function objects -/
/-- the function object at f -/
def LamO (f : Addr) (o : Obj) : HO := .ext fun h => h.get? f = some o
theorem lamO_ok {P : Program} {w : World} {H : Hp} {h : Heap} {f : Addr} {o : Obj} (e : h.get? f = some o) : ObjOk P w H h f (LamO f o) := ⟨e, ⟨o, e⟩, fun h1 h2 e1 k => k _ e1⟩
/-- lambda x: str(x) -/
structure StrL (params : Arguments) (body : Expr) (scope : Scope) : Prop where
  ex : ∃ (x : Str) (p1 p2 p3 : Pos), body = .Call (.Name "str" p1) [.Name x p2] [] p3 ∧ scope.names.lookup x = some .local ∧ scope.names.lookup ("str" : Str) = some .globalImplicit ∧ (x == ("__debug__" : Str)) = false ∧
    ∀ (q : Str) (cl : List (Str × Addr)) (pm cv ctv u : Value), bindArgs (kla_fn "<lambda>" q params body scope cl pm cv ctv) ⟨[u], []⟩ = pure [(x, u)]
  kind : scope.kind = .function
  co : scope.isCoroutine = false
  gen : scope.isGenerator = false
  own : ∀ y ∈ scope.names, y.2 ≠ .cell
  free : ∀ y ∈ scope.names, y.2 ≠ .free
/-- str(v) is the text k -/
def StrOf (P : Program) (w : World) (v : Value) (k : Str) : Prop := ∀ (A : Around) (E : Value → Shared → Prop) (s : Shared), wpAny (model P w) A (call (.type "str") [v]) (fun r s' => ∃ t tk, r = .str k t ∧ s' = { s with toks := tk }) E s
theorem strOf_str {P : Program} {w : World} {k : Str} {t : Tok} : StrOf P w (.str k t) k := fun A E s => PySem.P.str_of_str ⟨t, s.toks, rfl, rfl⟩
theorem strOf_int {P : Program} {w : World} {i : Int} {t : Tok} (h : i.natAbs.log2 < 1920) : StrOf P w (.int i t) (toString i) := fun A E s => PySem.P.str_of_int h ⟨s.toks, s.toks + 1, rfl, rfl⟩
theorem str_turn {P : Program} {w : World} {A : Around} {s : Shared} {K : Frag} {mg : Str → Option Value} {q : Str} {params : Arguments} {body : Expr} {scope : Scope} {cl : List (Str × Addr)} {pm ctv v : Value} {f c' : Addr} {k : Str}
    (L : StrL params body scope) (M : Mod K mg s.heap) (hm : mg "str" = none) (hf : s.heap.get? f = some (kla_obj "<lambda>" q params body scope cl pm c' ctv))
    (hc : ∃ (oc : Obj) (vs : Array Value) (t : Tok), s.heap.get? c' = some oc ∧ oc.data = .fields vs ∧ vs[1]? = some (.str q t)) (hd : A.depth < recursionLimit) (hk : StrOf P w v k) :
    wpAny (model P w) A (call (.ref f) [v]) (KeyPure (.str k) s) (fun _ _ => False) s := by
  obtain ⟨x, p1, p2, p3, eb, hx, hs, hdb, hbind⟩ := L.ex
  obtain ⟨oc, vs, t, hoc, hdc, hvc⟩ := hc
  refine wpAny_call (kla_callFunE hd hf rfl L.co L.gen rfl ⟨c', oc, vs, t, rfl, hoc, hdc, hvc⟩ ?_)
  rw [hbind]
  refine wpAny_pure (wpAny_newFunctionEnv L.own (fun y hy => by rw [List.mem_singleton.mp hy]; exact hx) (fun h₁ hns hsb => ⟨M.nolimit.fresh _ hsb, ?_⟩) L.kind)
  show codeAny _ _ (.expr body (envX q scope s.heap.objs.size f (.ref c') cl)) _ _
  have kp : ∀ b o, s.heap.get? b = some o → h₁.get? b = some o := fun b o e => hsb.extBut b o (Nat.ne_of_lt (Heap.lt_size e)) (Heap.get?_push_of_some _ e)
  obtain ⟨mb, hb1, hb2⟩ := M.blt
  refine kla_codeExpr ?_
  rw [eb]
  refine wpAny_Call_Name_kw (Calls.Name_function_global L.kind hs (Calls.loadGlobal_builtin (M.glob.keeps kp) hm (hb1.keeps kp) ((hb2 "str" (by decide)).trans (by rfl : bootBuiltins "str" = some (.type "str"))) ?_))
  have hv : (fun y => ([(x, v)] : List (Str × Value)).reverse.lookup y) x = some v := by simp [List.lookup]
  refine PyProof.Rows.callWith_type1 (T := "str") (Calls.spliced_cons (wpAny_Name (wpAny_loadName_local L.kind hx hns hv ?_) hdb))
  refine Calls.spliced_nil (wpAny_mono (hk _ _ _) (fun r s' ⟨t, tk, e1, e2⟩ => ?_) fun _ _ z => z)
  subst e1
  subst e2
  exact ⟨h₁, tk, rfl, kp, .str k t⟩
/-! ### sorted(x, key=f) -/
section
variable {prog : Program} {w : World} {A : Around} {E : Value → Shared → Prop} {s : Shared}
theorem args_sortedK (a v : Value) : argsOk "sorted" ⟨[a], [(Str.ofString "key", v)]⟩ := by unfold argsOk; kernel_rfl
theorem args_list_sortK (a v : Value) : argsOk "list.sort" ⟨[a], [(Str.ofString "key", v)]⟩ := by unfold argsOk; kernel_rfl
theorem collect_seq {T : String} {l : Addr} {vs : List Value} {o : Obj} {n : Nat} {Q : List Value → Shared → Prop} (hT : T = "list" ∨ T = "tuple") (ho : s.heap.get? l = some o) (hc : o.cls = .type T) (hd : o.data = .seq vs.toArray n)
    (h : ∀ h', (∀ b o, s.heap.get? b = some o → h'.get? b = some o) → Q vs { s with heap := h' }) (hsz : vs.length ≤ sizeLine) :
    wpAny (model prog w) A (collect (.ref l)) Q E s := by
  unfold collect
  refine wpAny_bind (wpAny_runValue (codeAny_builtin entry_proto_collect' ?_))
  show wpAny _ _ (do again (.builtin "list.__iadd__" ⟨[← newList [], .ref l], []⟩)) _ _ s
  refine wpAny_bind (wpAny_newList (wpAny_pure ⟨Code.quiet_builtin _ (by decide +kernel), codeAny_builtin entry_list_iadd' ?_⟩))
  show wpAny _ _ (Builtin.List.listExtendWith (.ref s.heap.objs.size) (.ref l) (.ref s.heap.objs.size)) _ _ { s with heap := s.heap.push (seqObj "list" #[] 0) }
  unfold Builtin.List.listExtendWith
  have ho' : (s.heap.push (seqObj "list" #[] 0)).get? l = some o := Heap.get?_push_of_some _ ho
  refine wpAny_bind (wpAny_typeOf (T := T) ⟨o, ho', hc⟩ ?_)
  have ht : (Value.type T == Value.type "list" || Value.type T == Value.type "tuple") = true := by
    rcases hT with e | e
    · rw [e]; decide
    · rw [e]; decide
  rw [if_pos (by
    rcases hT with e | e
    · rw [e]; simp
    · rw [e]; simp)]
  refine wpAny_bind (listItems_at ho' hd ?_)
  refine wpAny_bind (listItems_at (xs := #[]) (n := 0) (Heap.get?_push_size _ rfl) rfl ?_)
  rw [if_neg (by simp)]
  refine wpAny_bind (listUpdate_at (xs := #[]) (n := 0) (Heap.get?_push_size _ rfl) rfl ?_ (Nat.zero_le _) (by show (#[] ++ vs.toArray).size ≤ sizeLine + 1; simp only [Array.size_append, List.size_toArray, List.length_nil]; omega))
  refine wpAny_pure ?_
  show wpAny (model prog w) A (do
      let o ← load s.heap.objs.size
      match o.data with
      | .seq xs _ => pure xs.toList
      | _ => unsupported "internal:collect") Q E { s with heap := (s.heap.push (seqObj "list" #[] 0)).update s.heap.objs.size (Obj.mapSeq (· ++ vs.toArray)) }
  refine wpAny_bind (wpAny_load (get?_update_seq (Heap.get?_push_size _ rfl) _) ?_)
  show wpAny _ _ (pure ((#[] : Array Value) ++ vs.toArray).toList) Q E _
  rw [show ((#[] : Array Value) ++ vs.toArray).toList = vs by simp]
  exact wpAny_pure (h _ fun b o e => (Heap.get?_update_ne _ _ _ _ (Nat.ne_of_lt (Heap.lt_size e))).trans (Heap.get?_push_of_some _ e))
theorem sortedH {β : Type} {a q : Addr} {R : Value → β → Prop} {bs : List β} {Q : Value → Shared → Prop} (k : β → PyData) (hal : AllAlike (bs.map k)) (hk : Sortable (bs.map k)) (hL : bs.length ≤ sizeLine) (hu : ∀ x, x ∈ bs → A.units + 2 + (k x).depth < cLine)
    (col : ∀ (Q : List Value → Shared → Prop) (E : Value → Shared → Prop), (∀ h' tk vs, (∀ b o, s.heap.get? b = some o → h'.get? b = some o) → EachIs R vs bs → Q vs { s with heap := h', toks := tk }) → wpAny (model prog w) A.in1 (collect (.ref a)) Q E s)
    (turn : ∀ (v : Value) (x : β), R v x → x ∈ bs → ∀ (h : Heap) (tk : Nat), (∀ b o, s.heap.get? b = some o → h.get? b = some o) → wpAny (model prog w) A.in1.in1 (call (.ref q) [v]) (KeyPure (k x) { s with heap := h, toks := tk }) (fun _ _ => False) { s with heap := h, toks := tk })
    (h : ∀ (out : List Value) (c : Nat) (h1 h' : Heap) (tk : Nat), (∀ b o, s.heap.get? b = some o → h1.get? b = some o) → (∀ b o, h1.get? b = some o → h'.get? b = some o) → h'.get? h1.objs.size = some (seqObj "list" (List.toArray out) c) → EachIs R out (bs.mergeSort (dataLe false k)) → Q (.ref h1.objs.size) { s with heap := h', toks := tk }) :
    wpAny (model prog w) A (call (.builtin "sorted") [.ref a] [(Str.ofString "key", .ref q)]) Q E s := by
  refine call_function_entry_kw kind_sorted plain_sorted entry_sorted (args_sortedK _ _) ?_
  unfold Builtin.«sorted»
  refine wpAny_bind (m := checkCount "sorted" 1 1 _) (wpAny_pure ?_)
  refine wpAny_bind (col _ _ fun h' tk vs kp e => ?_)
  have hz : vs.length ≤ sizeLine := by rw [e.length]; exact hL
  refine wpAny_bind (wpAny_newList ?_ hz)
  have hoL : (h'.push (seqObj "list" vs.toArray 0)).get? h'.objs.size = some (seqObj "list" vs.toArray 0) := Heap.get?_push_size _ rfl
  have kp2 : ∀ {g : Heap}, KeepsBut h'.objs.size (h'.push (seqObj "list" vs.toArray 0)) g → ∀ b o, s.heap.get? b = some o → g.get? b = some o := fun {g} k b o e =>
    k b o (Nat.ne_of_lt (Heap.lt_size (kp b o e))) (Heap.get?_push_of_some _ (kp b o e))
  show wpAny _ _ _ _ _ { s with heap := h'.push (seqObj "list" vs.toArray 0), toks := tk }
  refine wpAny_bind (wpAny_holding (wpAny_call_entry_kw slot_list_sort ⟨_, hoL, rfl⟩ entry_list_sort ?_ (args_list_sortK _ _)))
  rw [ksk_t1]
  refine keyH_tree (kz := bs.map k) (s := { s with heap := h'.push (seqObj "list" vs.toArray 0), toks := tk }) hoL (by rw [List.length_map]; exact e.length.symm) hz hal hk (bound_map (A := A.in1.in1) hu)
    (keyH_turns (s := { s with heap := h'.push (seqObj "list" vs.toArray 0), toks := tk }) e fun v x hR hx h3 tk3 kp3 => turn v x hR hx h3 tk3 (kp2 kp3)) fun h3 tk3 out c kp3 hD ko => ⟨_, rfl, ?_⟩
  exact wpAny_pure ⟨_, rfl, h out c h' h3 tk3 kp (fun b o q => kp3 b o (Nat.ne_of_lt (Heap.lt_size q)) (Heap.get?_push_of_some _ q)) hD (keyedOut_each k ko e)⟩
end
/-! ### at the hand layer -/
/-- f is a lambda x: str(x) -/
def KeyL (H : Hp) (f : Addr) : Prop := ∃ (q : Str) (params : Arguments) (body : Expr) (scope : Scope) (cl : List (Str × Addr)) (pm ctv : Value) (c' : Addr), StrL params body scope ∧ H f = some (LamO f (kla_obj "<lambda>" q params body scope cl pm c' ctv)) ∧ H c' = some (CodeO c' q)
/-- items that are texts, or small ints, by their texts -/
def KTx (v : V) (k : Str) : Prop := v = .str k ∨ ∃ i : Int, v = .int i ∧ i.natAbs.log2 < 1920 ∧ k = toString i
/-- v is walked: xs -/
def Itr (K : Frag) (H : Hp) (a : Addr) (xs : List V) : Prop := SqL K H a xs ∨ SqT K H a xs ∨ ∃ kvs : List (Key × V), Rd H a (.dK kvs) ∧ xs = kvs.map fun kv => kV kv.1
theorem vals_each : ∀ {xs : List V} {us : List Value}, Vals xs us → EachIs (fun u x => RelV x u) us xs
  | _, _, .nil => .nil
  | _, _, .cons a r => .cons a (vals_each r)
theorem each_vals : ∀ {xs : List V} {us : List Value}, EachIs (fun u x => RelV x u) us xs → Vals xs us
  | _, _, .nil => .nil
  | _, _, .cons a r => .cons a (each_vals r)
/-- the order of a sort by texts -/
def leTx (k : V → Str) (a b : V) : Bool := dataLe false (fun x => PyData.str (k x)) a b
section
variable {X : Cx}
theorem call_sortedStr {k : V → Str} (hcalm : X.calm = true) (hm : X.mg "str" = none) (hr : Room 1 X.A) : CallRK X (.builtin "sorted") [Str.ofString "key"] (fun xs zs H Q => ∃ (a f : Addr) (ys : List V), xs = [.ref a] ∧ zs = [.ref f] ∧ KeyL H f ∧ Itr X.K H a ys ∧ (∀ y ∈ ys, KTx y (k y)) ∧
    ∀ p, H p = none → Q (.ref p) (upd H p (.lst (ys.mergeSort (leTx k))))) := by
  intro pins s σ H xs zs us ws Q I r rz q
  obtain ⟨a, f, ys, ex, ez, hf, hi, hk, q⟩ := q
  subst ex
  subst ez
  obtain ⟨u, eu, rx⟩ := vals1 r
  subst eu
  cases rx
  obtain ⟨u, eu, rx⟩ := vals1 rz
  subst eu
  cases rx
  obtain ⟨qn, params, body, scope, cl, pm, ctv, c', L, hfo, hco⟩ := hf
  have hfo' := (I.hok f _ hfo).1
  obtain ⟨oc, vs, t, hoc, hdc, hvc⟩ := (I.hok c' _ hco).1
  have col : ys.length ≤ sizeLine ∧ ∀ (Q : List Value → Shared → Prop) (E : Value → Shared → Prop), (∀ h' tk vs, (∀ b o, s.heap.get? b = some o → h'.get? b = some o) → EachIs (fun u x => RelV x u) vs ys → Q vs { s with heap := h', toks := tk }) → wpAny (model X.prog X.w) X.A.in1 (collect (.ref a)) Q E s := by
    rcases hi with hi | hi | ⟨kvs, hd, ey⟩
    · obtain ⟨its, r', pl, hz⟩ := I.list hi
      have hlen := r'.length
      obtain ⟨o, ho, hc, n, hd⟩ := pl.isList
      exact ⟨hz, fun Q E h => collect_seq (.inl rfl) ho hc hd (fun h' kp => h h' s.toks its kp (vals_each r')) (by omega)⟩
    · obtain ⟨its, r', pl, hz⟩ := I.tuple hi
      have hlen := r'.length
      obtain ⟨o, ho, hc, n, hd⟩ := pl
      exact ⟨hz, fun Q E h => collect_seq (.inr rfl) ho hc hd (fun h' kp => h h' s.toks its kp (vals_each r')) (by omega)⟩
    · obtain ⟨z, lo, vs, rel, dd⟩ := dk_rd I.hok hd
      obtain ⟨ep, hat⟩ := dd.dictAt
      have ek : (kvs.map fun kv => kV kv.1) = vs.map fun p => kV p.1 := by
        have e := congrArg (List.map kV) rel.keys
        rw [List.map_map, List.map_map] at e
        exact e
      refine ⟨by rw [ey, List.length_map]; exact z, fun Q E h => kdu_collect (A := X.A.in1) (kdl_dict (knd := mixKind X.prog X.w) (kvs := vs) (ep := ep) lo) (I.ok.hd hcalm) hat (by rw [← rel.length]; exact z) fun h' tk acc hk hacc => ?_⟩
      refine h h' tk acc.toList hk ?_
      rw [ey, ek]
      exact vals_each (keys_at (by rw [Array.length_toList]; exact hacc.1) fun j v e => hacc.2 j v (by rw [← Array.getElem?_toList]; exact e))
  refine sortedH (R := fun u x => RelV x u) (bs := ys) (fun x => PyData.str (k x)) (.of fun _ _ => rfl) (.others fun b => ⟨by simp, by simp⟩) col.1 (fun x _ => ?_) col.2 (fun v x hR hx h tk kp => ?_) fun out c h1 h' tk k1 k2 e1 e2 => ?_
  · have := hr.units
    show X.A.units + 2 + 0 < cLine
    omega
  · refine str_turn (k := k x) (mg := X.mg) (K := X.K) (s := { s with heap := h, toks := tk }) L ?_ hm (kp _ _ hfo') ⟨oc, vs, t, kp _ _ hoc, hdc, hvc⟩ hr.depth ?_
    · obtain ⟨m1, m2, ⟨mb, m3, m4⟩, m5⟩ := I.mod
      exact ⟨m1.keeps fun b o e => kp b o (I.bk b o e), m2.keeps fun b o e => kp b o (I.bk b o e), ⟨mb, m3.keeps fun b o e => kp b o (I.bk b o e), m4⟩, m5.keeps fun b o e => kp b o (I.bk b o e)⟩
    · rcases hk x hx with e | ⟨i, e, hb, e2⟩
      · rw [e] at hR
        obtain ⟨t, rfl⟩ := hR
        exact strOf_str
      · rw [e] at hR
        obtain ⟨t, rfl⟩ := hR
        rw [e2]
        exact strOf_int hb
  · have I1 : Inv X pins σ H { s with heap := h1, toks := tk } := I.kept k1
    refine ⟨.ref h1.objs.size, _, I1.laid (t' := tk) k2 (Nat.le_refl _) (show ObjOk X.prog X.w _ h' _ (.lst (ys.mergeSort (leTx k))) from ⟨?_, out, c, each_vals e2, e1⟩), rfl, q _ (I1.hok.fresh (Nat.le_refl _))⟩
    rw [List.length_mergeSort]
    exact col.1
/-- what the maker of lambdas with the code object cd knows -/
structure Mkr (Z : Cz) (T : List (Addr × Str)) (cd : Value) (q : Str) : Prop where
  ex : ∃ c P, cd = .ref c ∧ TabB Z.base Z.mg c P ∧ (P, q) ∈ T ∧ ∀ p ∈ T, p.1 = P → p.2 = q
def tLamK (T : List (Addr × Str)) : TE := fun σ H Q => Tabs T H ∧ ∀ f H1, Grow T H H1 → Tabs T H1 → KeyL H1 f → Q (.ref f) H1
theorem pe_lamK {Z : Cz} {T : List (Addr × Str)} {params : Arguments} {body : Expr} {scope : Scope} {pos : Pos} (M : Mkr Z T X.env.code (X.env.qual ++ "<lambda>")) (L : StrL params body scope) (hdef : defaultsOf params X.env = ([], []) := by rfl) (z : InZ Z X := by exact ⟨rfl, rfl, rfl, rfl, rfl⟩) : PE X (.Lambda params body scope pos) (tLamK T) := by
  obtain ⟨c, P, hcd, TB, hm, hu⟩ := M.ex
  rw [← z.base, ← z.mg] at TB
  refine ⟨fun pins s σ H Q I h => ?_⟩
  obtain ⟨hT, h⟩ := h
  obtain ⟨ps, hP, ht, ha⟩ := hT _ hm
  have hP' : s.heap.get? P = some { cls := .none, data := .fields ps } := I.hok P _ hP
  refine kla_eval hdef ?_
  have clo := closure_ok (env := X.env) (scope := scope) fun y hy e => absurd e (L.free y hy)
  cases hc : codeAmong pos ps.toList with
  | some cv =>
    obtain ⟨c', e, hco⟩ := ha pos cv hc
    subst e
    refine kla_makeFunctionHit (c := c) (ps := ps) clo I.ok.glob (I.mod.glob.keeps I.bk) hcd (TB.code.keeps I.bk) hP' ht hc (TB.bm.keeps I.bk) fun ctv h' tk hx hsz => ?_
    have I1 : Inv X pins σ H { s with heap := h', toks := tk } := I.kept hx
    have n : H h'.objs.size = none := I1.hok.fresh (Nat.le_refl _)
    have g : Grow T H (upd H h'.objs.size (LamO h'.objs.size (kla_obj "<lambda>" (X.env.qual ++ "<lambda>") params body scope (cloFrom X.env.cells scope.names []) ((X.mg "__name__").getD .none) c' ctv))) := .new n
    exact ⟨.ref h'.objs.size, _, I1.laid (t' := tk) (fun b o e => Heap.get?_push_of_some _ e) (Nat.le_refl _) (lamO_ok (Heap.get?_push_size _ rfl)), rfl, h _ _ g (g.t hT) ⟨_, _, _, _, _, _, _, _, L, upd_same, g.x _ _ (by simp) hco codeO_ne⟩⟩
  | none =>
    refine kla_makeFunction (c := c) (ps := ps) clo I.ok.glob (I.mod.glob.keeps I.bk) hcd (TB.code.keeps I.bk) hP' ht hc TB.gP (TB.bm.keeps I.bk) fun c' ctv h' tk hx hge hlt hrec htb => ?_
    obtain ⟨c2, oc, vs, t, e2, hoc, hd, hv⟩ := hrec
    cases e2
    have nC : H c' = none := I.hok.fresh hge
    have I1 := inv_table (t' := tk) (more := #[rawInt pos.line, rawInt pos.col, .ref c']) I hP hx htb hge ⟨oc, vs, t, hoc, hd, hv⟩
    have n := I1.hok.fresh (Nat.le_refl h'.objs.size)
    have g1 : ExtN H (upd (upd H P (.tbl (ps ++ #[rawInt pos.line, rawInt pos.col, .ref c']))) c' (CodeO c' (X.env.qual ++ "<lambda>"))) := fun b o e nt => by
      have nb : b ≠ P := fun z => nt ps (Option.some.inj (e.symm.trans (by rw [z]; exact hP)))
      rw [upd_ne (ne_of_none e nC), upd_ne nb]
      exact e
    have t1 : Tabs T (upd (upd H P (.tbl (ps ++ #[rawInt pos.line, rawInt pos.col, .ref c']))) c' (CodeO c' (X.env.qual ++ "<lambda>"))) := fun p hp => by
      by_cases hb : p.1 = P
      · have eL : (ps ++ #[rawInt pos.line, rawInt pos.col, .ref c']).toList = ps.toList ++ [rawInt pos.line, rawInt pos.col, .ref c'] := by simp
        rw [hu p hp hb, hb]
        refine ⟨_, (upd_ne (ne_of_none hP nC)).trans upd_same, eL ▸ PySem.TriplesOk_snoc _ _ _ _ ht, fun p' cv hcv => ?_⟩
        rcases among_app _ ht (eL ▸ hcv) with z | z
        · obtain ⟨c0, e1, e2⟩ := ha p' cv z
          exact ⟨c0, e1, g1 _ _ e2 codeO_ne⟩
        · exact ⟨c', z, upd_same⟩
      · obtain ⟨ps', a1, a2, a3⟩ := hT p hp
        refine ⟨ps', (upd_ne (ne_of_none a1 nC)).trans ((upd_ne hb).trans a1), a2, fun p' cv hcv => ?_⟩
        obtain ⟨c0, e1, e2⟩ := a3 p' cv hcv
        exact ⟨c0, e1, g1 _ _ e2 codeO_ne⟩
    have g := (Gr.mk (fun b o _ => g1 b o) (fun _ => t1) (fun b h => upd_free (H := H) (fun b h => upd_free (H := H) (fun _ h => h) h) h) : Grow T H _).trans (.new (o := LamO h'.objs.size (kla_obj "<lambda>" (X.env.qual ++ "<lambda>") params body scope (cloFrom X.env.cells scope.names []) ((X.mg "__name__").getD .none) c' ctv)) n)
    refine ⟨.ref h'.objs.size, _, I1.laid (t' := tk) (fun b o e => Heap.get?_push_of_some _ e) (Nat.le_refl _) (lamO_ok (Heap.get?_push_size _ rfl)), rfl, h _ _ g (g.t hT) ⟨_, _, _, _, _, _, _, _, L, upd_same, ?_⟩⟩
    rw [upd_ne (ne_of_none upd_same n)]
    exact upd_same
end
end Ps

/-! The end of a law whose defs make lambdas: tables of code objects stand outside the known heap. -/
namespace Ps
open PySem PySem.Spec PyProof.Rows PySem.W L2 He LamX

abbrev tab0 : Obj := { cls := .none, data := .fields #[] }
section
variable {P : Program} {w : World} {K : Frag} {mg mb : Str → Option Value} {CX : CXT} {k : Nat} {fa a : Addr} {fd : FuncData} {x : Str} {sp : Sp} {s : Shared} {cs : List (Addr × Addr)}
/-- the call over an abstract heap that tracks at most the script and the tables -/
theorem call_fromT {H : Hp} (KX : K.In s.heap) (hns : s.heap.Ns mainGlobals mg) (hb : s.heap.Ns builtinsNs mb) (hbb : ∀ x : Str, x ≠ "__name__" → mb x = bootBuiltins x) (hlim : s.heap.NoLimit) (hg : s.gens = #[])
    (hT : ∀ p ∈ cs, s.heap.get? p.2 = some tab0) (C : ∀ p ∈ cs, CodeHd s.heap p.1 p.2)
    (hbm : ∃ (bm : Addr) (ob : Obj), mg "__builtins__" = some (.ref bm) ∧ bm ≠ builtinsNs ∧ s.heap.get? bm = some ob ∧ ob.cls = .type "module" ∧ ob.dict = some builtinsNs ∧ ob.data = .plain)
    (hr : Room k callerA) (F : ∀ base : Heap, K.In base → base.Ns mainGlobals mg → (∀ p ∈ cs, TabB base mg p.1 p.2) → FnG P w K mg base CX k fa fd [x] sp) (hbind : ∀ (s : Shared) (u : Value), BindsTo s fd ⟨[u], []⟩ [(x, u)])
    (hsp : sp [.ref a] H (fun v _ => v = .bl true) fun _ _ _ => False) (hCX : ∀ H e s', CX [] H s (fun _ _ _ => False) e s' → False)
    (hH : ∀ p ∈ cs, H p.2 = some (.tbl #[])) (hO : ∀ b, H b = none ∨ (∃ p ∈ cs, p.2 = b) ∨ ∃ o xs, H b = some (.frz o (.lst xs))) (hok : HOk P w H s.heap) (hK : ∀ b o, K.lookup b = some o → H b = none)
    (hN : ∀ b o, s.heap.get? b = some o → (∀ vs n, o.data ≠ .seq vs n) → o.data ≠ .fields #[] → H b = none) :
    codeAny (model P w) callerA (.call (.ref fa) ⟨[.ref a], []⟩) (fun r s' => r = .ok (.ret (.bool true)) ∧ OldK s.heap s'.heap ∧ s'.os = s.os ∧ AllBare s'.gens) s := by
  have nsK : ∀ {b : Addr} {m : Str → Option Value}, s.heap.Ns b m → (hidT s.heap H).Ns b m := fun {b m} ⟨o, es, ep, e, d, r⟩ => ⟨o, es, ep, hidT_get e (hN b o e (fun _ _ z => by rw [d] at z; cases z) fun z => by rw [d] at z; cases z), d, r⟩
  have hKb : K.In (hidT s.heap H) := fun b o e => hidT_get (KX b o e) (hK b o e)
  obtain ⟨mc, l1, l2⟩ := hlim
  have TB : ∀ p ∈ cs, TabB (hidT s.heap H) mg p.1 p.2 := fun p hp => by
    have hTp := hT p hp
    obtain ⟨og, eg, epg, e0, d0, _⟩ := hns
    refine ⟨?_, ?_, fun z => ?_⟩
    · obtain ⟨o, us, file, tf, flags, tg, inF, text, tt, e1, r1, r2, r3, rest⟩ := C p hp
      have n1 : H p.1 = none := hN _ o e1 (fun vs n z => by rw [r2] at z; cases z) fun z => by
        rw [r2] at z
        cases z
        simp at r3
      exact ⟨o, us, file, tf, flags, tg, inF, text, tt, hidT_get e1 n1, r1, r2, r3, rest⟩
    · obtain ⟨bm, ob, b1, b2, b3, b4, b5, b6⟩ := hbm
      refine ⟨bm, ob, b1, b2, fun q => ?_, fun q => ?_, hidT_get b3 (hN bm ob b3 (fun vs n z => by rw [b6] at z; cases z) fun z => by rw [b6] at z; cases z), b4, b5, b6⟩
      · rw [q, e0] at b3
        cases b3
        rw [d0] at b6
        cases b6
      · rw [q, hTp] at b3
        cases b3
        cases b6
    · rw [z, hTp] at e0
      cases e0
      cases d0
  have e0 : Env0 P w K mg (hidT s.heap H) callerA [] s H :=
    ⟨rfl, ⟨hKb, nsK hns, ⟨mb, nsK hb, hbb⟩, ⟨mc, nsK l1, l2⟩⟩, fun b o e => of_hidT e, Nat.le_of_eq (hidT_size _ _), trivial, fun b hb => absurd (show b ∈ ([] : List Addr) from hb) (by simp), hok, .of_eq hg⟩
  refine codeAny_mono ((F _ hKb (nsK hns) TB).run callerA [] s H ⟨[.ref a], []⟩ [.ref a] [.ref a] _ _ hr rfl e0 (hbind s (.ref a)) (.cons rfl .nil) hsp) fun r s' h => ?_
  cases r with
  | error e => exact (hCX H e s' h).elim
  | ok fl =>
    cases fl with
    | next => exact False.elim h
    | brk => exact False.elim h
    | cont => exact False.elim h
    | ret u =>
      obtain ⟨v, H', os, bare, un, hok', r', q⟩ := h
      obtain rfl : v = .bl true := q
      obtain rfl : u = Value.bool true := r'
      have grown : ∀ p ∈ cs, ∃ more : Array Value, s'.heap.get? p.2 = some { cls := .none, data := .fields more } := fun p hp => by
        obtain ⟨more, z⟩ := un.tbls p.2 #[] (hH p hp)
        exact ⟨_, hok' p.2 _ z⟩
      refine ⟨rfl, ⟨fun b o e => ?_, fun b o e => ?_⟩, os, bare⟩
      · rcases hO b with z | ⟨p, hp, z⟩ | ⟨ob, xs, z⟩
        · exact .inl (un.keep b o e z (fun y => absurd (show b ∈ ([] : List Addr) from y) (by simp)) (by simp))
        · obtain ⟨more, hm⟩ := grown p hp
          subst z
          rw [hT p hp] at e
          cases e
          refine .inr (.inl ⟨((C p hp).tab (hT p hp)).isCodeTable, rfl, #[], more, rfl, ?_⟩)
          rw [Array.empty_append]
          exact hm
        · obtain ⟨e1, _⟩ := hok b _ z
          obtain ⟨e2, _⟩ := hok' b _ (un.frzs b ob _ z)
          exact .inl ((Option.some.inj (e1.symm.trans e)) ▸ e2)
      · rcases hO b with z | ⟨p, hp, z⟩ | ⟨ob, xs, z⟩
        · exact ⟨o, un.keep b o e z (fun y => absurd (show b ∈ ([] : List Addr) from y) (by simp)) (by simp)⟩
        · obtain ⟨more, hm⟩ := grown p hp
          subst z
          exact ⟨_, hm⟩
        · obtain ⟨e2, _⟩ := hok' b _ (un.frzs b ob _ z)
          exact ⟨_, e2⟩
end
theorem walk_GT {l : OpenLaw} {n k : Nat} {q : Program} {loose : List Str} {XP : (Str → Option Value) → Heap → Prop} {YP : World → Heap → Prop} {d : DefRec} {CX : CXT} {x : Str}
    (hn : l.most = some n) (hn2 : n ≤ sizeLine) (hdf : d.params.defaults = []) (hr : Room k callerA)
    (F : ∀ (w : World) (mg : Str → Option Value) (fa : Addr) (h : Heap), YP w h → h.Ns mainGlobals mg → mg d.name = some (.ref fa) →
      ∃ (K : Frag) (fd : FuncData) (sp : Sp) (cs : List (Addr × Addr)), K.In h ∧ (∀ p ∈ cs, h.get? p.2 = some tab0) ∧ (∀ p ∈ cs, K.lookup p.2 = none) ∧ (∀ p ∈ cs, CodeHd h p.1 p.2) ∧ (∀ (s : Shared) (u : Value), BindsTo s fd ⟨[u], []⟩ [(x, u)]) ∧
        (∀ (H : Hp) (a : Addr) (ns : List Int), ns.length ≤ n → (∀ p ∈ cs, H p.2 = some (.tbl #[])) → SqL K H a (ns.map V.int) → sp [.ref a] H (fun v _ => v = .bl true) fun _ _ _ => False) ∧
        ∀ base : Heap, K.In base → base.Ns mainGlobals mg → (∀ p ∈ cs, TabB base mg p.1 p.2) → FnG l.prog w K mg base CX k fa fd [x] sp)
    (hCX : ∀ (H : Hp) (s : Shared) (e : Value) (s' : Shared), CX [] H s (fun _ _ _ => False) e s' → False) :
    WalkO q loose XP YP l.row.toRowW d [] (fun f vs => PySem.call f vs) := by
  refine Att.attach_call hn hdf fun w s₀ s₁ mg mb fa o pm cd doc a vs ns G Y ho hd hcd hmg hobj hints hlen hg => ?_
  obtain ⟨K, fd, sp, cs, KX, hT, nT, C, hb, hsp, hF⟩ := F w mg fa _ Y G.T.g hmg
  have rv := vals_ints hints
  have hsz : ns.length ≤ sizeLine := Nat.le_trans hlen hn2
  have aT : ¬ ∃ p ∈ cs, p.2 = a := fun ⟨p, hp, z⟩ => by
    have q := hT p hp
    rw [z, hobj] at q
    have z' : Data.seq vs.toArray _ = Data.fields #[] := congrArg Obj.data (Option.some.inj q)
    cases z'
  let fz : HO := .frz { cls := .type "list", data := .seq vs.toArray } (.lst (ns.map V.int))
  have core : ∀ H : Hp, (∀ b, (∃ p ∈ cs, p.2 = b) → H b = some (.tbl #[])) → (∀ b, b ≠ a → (¬ ∃ p ∈ cs, p.2 = b) → H b = none) → (H a = none ∨ (H a = some fz ∧ K.lookup a = none)) → SqL K H a (ns.map V.int) →
      codeAny (model l.prog w) callerA (.call (.ref fa) ⟨[.ref a], []⟩) (fun r s' => r = .ok (.ret (.bool true)) ∧ OldK s₁.heap s'.heap ∧ s'.os = s₁.os ∧ AllBare s'.gens) s₁ := by
    intro H h1 h2 h3 hS
    refine call_fromT KX G.T.g G.T.b G.T.builtins G.T.nolimit hg hT C G.T.bmain hr hF hb (hsp H a ns hlen (fun p hp => h1 _ ⟨p, hp, rfl⟩) hS) (fun H e s' => hCX H s₁ e s') (fun p hp => h1 _ ⟨p, hp, rfl⟩) (fun b => ?_) (fun b u z => ?_) (fun b o e => ?_) (fun b o e n1 n2 => ?_)
    · by_cases hb1 : ∃ p ∈ cs, p.2 = b
      · exact .inr (.inl hb1)
      · by_cases hb2 : b = a
        · subst hb2
          rcases h3 with z | ⟨z, _⟩
          · exact .inl z
          · exact .inr (.inr ⟨_, _, z⟩)
        · exact .inl (h2 b hb2 hb1)
    · by_cases hb1 : ∃ p ∈ cs, p.2 = b
      · rw [h1 b hb1] at z
        cases z
        obtain ⟨p, hp, e⟩ := hb1
        rw [← e]
        exact hT p hp
      · by_cases hb2 : b = a
        · subst hb2
          rcases h3 with y | ⟨y, _⟩
          · rw [y] at z
            cases z
          · rw [y] at z
            cases z
            exact ⟨hobj, by rw [List.length_map]; exact hsz, vs, _, rv, hobj⟩
        · rw [h2 b hb2 hb1] at z
          cases z
    · by_cases hb1 : ∃ p ∈ cs, p.2 = b
      · obtain ⟨p, hp, z⟩ := hb1
        rw [← z, nT p hp] at e
        cases e
      · by_cases hb2 : b = a
        · subst hb2
          rcases h3 with y | ⟨_, y⟩
          · exact y
          · rw [y] at e
            cases e
        · exact h2 b hb2 hb1
    · by_cases hb1 : ∃ p ∈ cs, p.2 = b
      · obtain ⟨p, hp, z⟩ := hb1
        rw [← z, hT p hp] at e
        cases e
        exact absurd rfl n2
      · by_cases hb2 : b = a
        · subst hb2
          rw [hobj] at e
          cases e
          exact absurd rfl (n1 _ _)
        · exact h2 b hb2 hb1
  cases hk : K.lookup a with
  | some ob =>
    have e := KX a ob hk
    rw [hobj] at e
    cases e
    have hS : ∀ H : Hp, SqL K H a (ns.map V.int) := fun H => .inr ⟨_, vs.toArray, _, hk, rfl, rfl, rfl, by rw [List.size_toArray, hints.length]; exact hsz, by simpa using rv⟩
    classical
    exact core (fun b => if ∃ p ∈ cs, p.2 = b then some (.tbl #[]) else none) (fun b h => if_pos h) (fun b _ h => if_neg h) (.inl (if_neg aT)) (hS _)
  | none =>
    classical
    refine core (fun b => if ∃ p ∈ cs, p.2 = b then some (.tbl #[]) else if b = a then some fz else none) (fun b h => if_pos h) (fun b h1 h2 => (if_neg h2).trans (if_neg h1)) (.inr ⟨(if_neg aT).trans (if_pos rfl), hk⟩) (.inl (.inr ⟨_, (if_neg aT).trans (if_pos rfl)⟩))
/-! ### the hook -/
def tabO (K : Frag) (m : At) : Option (Addr × Addr) := match K.lookup (m.a K) with
  | some ⟨_, _, .func fd, _⟩ => (match fd.code with
    | .ref c => (match K.lookup c with
      | some ⟨_, _, .fields vs, _⟩ => (match (vs[11]? : Option Value) with
        | some (.ref P) => some (c, P)
        | _ => none)
      | _ => none)
    | _ => none)
  | _ => none
theorem tabO_code {K : Frag} {m : At} {c P : Addr} (h : tabO K m = some (c, P)) {oc : Value} {od : Option Addr} {fd : FuncData} {osl : Array (Option Value)} (e : K.lookup (m.a K) = some ⟨oc, od, .func fd, osl⟩) : fd.code = .ref c := by
  unfold tabO at h
  rw [e] at h
  have h2 : (match fd.code with
    | .ref c => (match K.lookup c with
      | some ⟨_, _, .fields vs, _⟩ => (match (vs[11]? : Option Value) with
        | some (.ref P) => some (c, P)
        | _ => none)
      | _ => none)
    | _ => none) = some (c, P) := h
  split at h2
  · rename_i c0 ec
    split at h2
    · split at h2
      · cases h2
        exact ec
      · cases h2
    · cases h2
  · cases h2
def isTab (o : Option Obj) : Bool := match o with
  | some ⟨.none, none, .fields vs, sl⟩ => vs.toList.isEmpty && sl.toList.isEmpty
  | _ => false
theorem isTab_ok {o : Option Obj} (h : isTab o = true) : o = some tab0 := by
  unfold isTab at h
  split at h
  · rename_i vs sl
    obtain ⟨h1, h2⟩ := ba h
    have e1 : vs = #[] := by simpa using h1
    have e2 : sl = #[] := by simpa using h2
    rw [e1, e2]
  · cases h
/-- the makers' code objects and tables -/
def tabsOf (mk : List (At × Str)) (K : Frag) : List (Addr × Addr) := mk.filterMap fun m => tabO K m.1
def tabsT (mk : List (At × Str)) (K : Frag) : List (Addr × Str) := mk.filterMap fun m => (tabO K m.1).map fun p => (p.2, m.2)
theorem lookup_mem {a : Addr} {o : Obj} : ∀ {K : Frag}, K.lookup a = some o → (a, o) ∈ K
  | [], h => by cases h
  | (b, u) :: K, h => by
    have h' : (match a == b with | true => some u | false => K.lookup a) = some o := h
    cases e : (a == b) with
    | true =>
      rw [e] at h'
      rw [beq_iff_eq.mp e, Option.some.inj h']
      exact List.mem_cons_self ..
    | false =>
      rw [e] at h'
      exact List.mem_cons_of_mem _ (lookup_mem h')
/-- the fragment's members, not only what it answers -/
def GoodM (g : Addr → Option Obj) (acc : Frag) : Prop := ∀ p ∈ acc, g p.1 = some p.2
theorem GoodM.cons {g : Addr → Option Obj} {acc : Frag} {a : Addr} {o : Obj} (h : GoodM g acc) (e : g a = some o) : GoodM g ((a, o) :: acc) := fun p hp => by
  rcases List.mem_cons.mp hp with z | z
  · rw [z]; exact e
  · exact h p z
theorem inQ_okM {α : Type} {g : Addr → Option Obj} {Φ : α → Prop} {k : Nat → Frag → List Addr → α} (hk : ∀ v acc nx, GoodM g acc → Φ (k v acc nx)) : ∀ (l : List Addr) (v : Nat) (acc : Frag) (nx : List Addr), GoodM g acc → Φ (inQ g k l v acc nx)
  | [], v, acc, nx, h => hk v acc nx h
  | a :: r, v, acc, nx, h => by
    unfold inQ
    rw [HandSHeadRun.frNat_eq]
    cases Nat.land (Nat.shiftRight v a) 1 with
    | zero =>
      show Φ (match g a with
        | some o => HandSHeadRun.frNat (Nat.lor v (Nat.shiftLeft 1 a)) fun v => inQ g k r v ((a, o) :: acc) (refsD o ++ nx)
        | none => inQ g k r v acc nx)
      cases e : g a with
      | none => exact inQ_okM hk r v acc nx h
      | some o =>
        show Φ (HandSHeadRun.frNat (Nat.lor v (Nat.shiftLeft 1 a)) fun v => inQ g k r v ((a, o) :: acc) (refsD o ++ nx))
        rw [HandSHeadRun.frNat_eq]
        exact inQ_okM hk r _ _ _ (h.cons e)
    | succ n => exact inQ_okM hk r v acc nx h
theorem outQ_okM {α : Type} {g : Addr → Option Obj} {Φ : α → Prop} {k : Frag → α} (hk : ∀ acc, GoodM g acc → Φ (k acc)) : ∀ (n : Nat) (l : List Addr) (v : Nat) (acc : Frag), GoodM g acc → Φ (outQ g k n l v acc)
  | 0, l, v, acc, h => inQ_okM (fun _ acc _ q => hk acc q) l v acc [] h
  | n + 1, l, v, acc, h => inQ_okM (fun v acc nx q => outQ_okM hk n nx v acc q) l v acc [] h
theorem GoodM.in_ {h : Heap} {K : Frag} (X : GoodM h.get? K) : K.In h := fun a o e => X (a, o) (lookup_mem e)
theorem goodM_nil {g : Addr → Option Obj} (as : List Addr) : GoodM g (frG g as) := fun p hp => by
  obtain ⟨a, _, e⟩ := List.mem_filterMap.mp hp
  cases q : g a with
  | none => rw [q] at e; cases e
  | some o =>
    rw [q] at e
    rw [← Option.some.inj e]
    exact q
/-- turned round: what the rounds saw first is found first -/
def dropR {α : Type} (ts : List Addr) : Frag → Frag → (Frag → α) → α
  | acc, [], k => k acc
  | acc, (a, o) :: r, k => match ts.contains a with
    | true => dropR ts acc r k
    | false => dropR ts ((a, o) :: acc) r k
theorem dropR_eq {α : Type} (ts : List Addr) : ∀ (K acc : Frag) (k : Frag → α), ∃ K' : Frag, dropR ts acc K k = k K' ∧ ∀ p ∈ K', p ∈ acc ∨ p ∈ K
  | [], acc, _ => ⟨acc, rfl, fun p hp => .inl hp⟩
  | (a, o) :: r, acc, k => by
    unfold dropR
    cases e : ts.contains a with
    | true =>
      obtain ⟨K', q, m⟩ := dropR_eq ts r acc k
      exact ⟨K', q, fun p hp => (m p hp).imp id (List.mem_cons_of_mem _)⟩
    | false =>
      obtain ⟨K', q, m⟩ := dropR_eq ts r ((a, o) :: acc) k
      refine ⟨K', q, fun p hp => ?_⟩
      rcases m p hp with z | z
      · rcases List.mem_cons.mp z with y | y
        · exact .inr (by rw [y]; exact List.mem_cons_self ..)
        · exact .inl y
      · exact .inr (List.mem_cons_of_mem _ z)
def uniqB (mk : List (At × Str)) (K : Frag) : Bool := mk.all fun m => mk.all fun m' => match tabO K m.1, tabO K m'.1 with
  | some (_, P), some (_, P') => !(P == P') || m.2 == m'.2
  | _, _ => true
def mkB (mk : List (At × Str)) (K0 K : Frag) : Bool := (tabsOf mk K).all (fun p => isTab (K0.lookup p.2) && (codeHdIn K p.1 p.2 && (K.lookup p.2).isNone)) && (mk.all (fun m => (tabO K m.1).isSome) && uniqB mk K)
def obsM (fn : List DefP) (ex : Frag → Bool) (mk : List (At × Str)) (K0 : Frag) : AlP := dropR ((tabsOf mk K0).map (·.2)) [] K0 fun K => (mkB mk K0 K && (ex K && fn.all fun d => d.ok K), fn.map fun d => fnP K (d.at_.a K))
/-- what is known of the makers' tables -/
structure TabsH (mk : List (At × Str)) (K : Frag) (h : Heap) : Prop where
  tab : ∀ p ∈ tabsOf mk K, h.get? p.2 = some tab0
  out : ∀ p ∈ tabsOf mk K, K.lookup p.2 = none
  code : ∀ p ∈ tabsOf mk K, CodeHd h p.1 p.2
  some_ : ∀ m ∈ mk, ∃ c P, tabO K m.1 = some (c, P)
  uniq : uniqB mk K = true
theorem obsM_ok {fn : List DefP} {ex : Frag → Bool} {mk : List (At × Str)} {K0 : Frag} {h : Heap} (X : GoodM h.get? K0) (e : obsM fn ex mk K0 = valP fn) : ∃ K : Frag, K.In h ∧ SaysP fn ex K ∧ TabsH mk K h := by
  unfold obsM at e
  obtain ⟨K, qK, mK⟩ := dropR_eq ((tabsOf mk K0).map (·.2)) K0 [] fun K => (mkB mk K0 K && (ex K && fn.all fun d => d.ok K), fn.map fun d => fnP K (d.at_.a K))
  rw [qK] at e
  have XK : K.In h := GoodM.in_ fun p hp => (mK p hp).elim (fun z => by cases z) (X p)
  have e1 : (mkB mk K0 K && (ex K && fn.all fun d => d.ok K)) = true := congrArg (fun z : AlP => z.1) e
  have e2 : (fn.map fun d => fnP K (d.at_.a K)) = fn.map DefP.val := congrArg (fun z : AlP => z.2) e
  obtain ⟨c1, c2⟩ := ba e1
  refine ⟨K, XK, ?_, ?_⟩
  · show obsP fn ex K = valP fn
    unfold obsP valP
    rw [c2, e2]
  · obtain ⟨t1, t2⟩ := ba c1
    obtain ⟨t3, t4⟩ := ba t2
    have at_ : ∀ p ∈ tabsOf mk K, isTab (K0.lookup p.2) = true ∧ codeHdIn K p.1 p.2 = true ∧ (K.lookup p.2).isNone = true := fun p hp => by
      obtain ⟨a1, a2⟩ := ba (List.all_eq_true.mp t1 p hp)
      exact ⟨a1, ba a2⟩
    exact ⟨fun p hp => X.in_ _ _ (isTab_ok (at_ p hp).1), fun p hp => Option.isNone_iff_eq_none.mp (at_ p hp).2.2, fun p hp => codeHd_of_K XK (at_ p hp).2.1, fun m hm => by
      obtain ⟨q, hq⟩ := Option.isSome_iff_exists.mp (List.all_eq_true.mp t3 m hm)
      exact ⟨q.1, q.2, hq⟩, t4⟩
theorem TabsH.keeps {mk : List (At × Str)} {K : Frag} {h h' : Heap} (t : TabsH mk K h) (k : ∀ b o, h.get? b = some o → h'.get? b = some o) : TabsH mk K h' :=
  ⟨fun p hp => k _ _ (t.tab p hp), t.out, fun p hp => (t.code p hp).keeps k, t.some_, t.uniq⟩
def obsTG (n : Nat) (fn : List DefP) (ex : Frag → Bool) (mk : List (At × Str)) (g : Addr → Option Obj) : AlP := outQ g (obsM fn ex mk) n [mainGlobals] 0 (frG g [cStatics])
def hookT (n : Nat) (fn : List DefP) (ex : Frag → Bool) (mk : List (At × Str)) : Hook where
  α := AlP
  obs := fun s => obsTG n fn ex mk s.heap.get?
  val := fun _ => valP fn
  says := fun _ h => ∃ K : Frag, K.In h ∧ SaysP fn ex K ∧ TabsH mk K h
  of := fun _ s e => outQ_okM (g := s.heap.get?) (Φ := fun z => z = valP fn → ∃ K : Frag, K.In s.heap ∧ SaysP fn ex K ∧ TabsH mk K s.heap) (fun acc q z => obsM_ok q z) n _ 0 _ (goodM_nil _) e
  keeps := fun _ _ _ ⟨K, hK, c, t⟩ k => ⟨K, Frag.In.keeps hK k, c, t.keeps k⟩
theorem obsTG_eq {n : Nat} {fn : List DefP} {ex : Frag → Bool} {mk : List (At × Str)} {g : Addr → Option Obj} {s : Shared} (h : ∀ a, g a = s.heap.get? a) : obsTG n fn ex mk g = (hookT n fn ex mk).obs s := by
  have e : g = s.heap.get? := funext h
  rw [e] <;> rfl
/-- a maker -/
theorem TabsH.mkr {mk : List (At × Str)} {h : Heap} {Z : Cz} {m : At} {q : Str} {f : Addr} {oc : Value} {od : Option Addr} {fd : FuncData} {osl : Array (Option Value)} (t : TabsH mk Z.K h) (hB : ∀ p ∈ tabsOf mk Z.K, TabB Z.base Z.mg p.1 p.2) (hm : (m, q) ∈ mk) (hf : f = m.a Z.K)
    (e : Z.K.lookup f = some ⟨oc, od, .func fd, osl⟩) : Mkr Z (tabsT mk Z.K) fd.code q := by
  obtain ⟨c, P, ht⟩ := t.some_ _ hm
  subst hf
  refine ⟨c, P, tabO_code ht e, hB (c, P) (List.mem_filterMap.mpr ⟨_, hm, ht⟩), List.mem_filterMap.mpr ⟨_, hm, by rw [ht]; rfl⟩, fun p hp ep => ?_⟩
  obtain ⟨m', hm', e'⟩ := List.mem_filterMap.mp hp
  cases q' : tabO Z.K m'.1 with
  | none => rw [q'] at e'; cases e'
  | some z =>
    rw [q'] at e'
    have e2 : (z.2, m'.2) = p := Option.some.inj e'
    have u := List.all_eq_true.mp (List.all_eq_true.mp t.uniq _ hm) _ hm'
    have u2 : (match tabO Z.K m, tabO Z.K m'.1 with
      | some (_, P), some (_, P') => !(P == P') || q == m'.2
      | _, _ => true) = true := u
    rw [ht, q'] at u2
    have u3 : (!(P == z.2) || q == m'.2) = true := u2
    have e3 : z.2 = P := by rw [← e2] at ep; exact ep
    rw [e3] at u3
    have u4 : q = m'.2 := by simpa using u3
    rw [← e2]
    exact u4.symm
theorem tabs_start {mk : List (At × Str)} {K : Frag} {H : Hp} (h : ∀ p ∈ tabsOf mk K, H p.2 = some (.tbl #[])) : Tabs (tabsT mk K) H := fun p hp => by
  obtain ⟨m, hm, e⟩ := List.mem_filterMap.mp hp
  cases q : tabO K m.1 with
  | none => rw [q] at e; cases e
  | some z =>
    rw [q] at e
    have e2 : (z.2, m.2) = p := Option.some.inj e
    rw [← e2]
    exact TabS.nil (h z (List.mem_filterMap.mpr ⟨m, hm, q⟩))
theorem Got.mkr {mk : List (At × Str)} {h : Heap} {Z : Cz} {x q : Str} {st : Stmt} {f : Addr} {fd : FuncData} (t : TabsH mk Z.K h) (hB : ∀ p ∈ tabsOf mk Z.K, TabB Z.base Z.mg p.1 p.2) (hm : (.g x, q) ∈ mk) (X : Z.K.In h) (G : h.Ns mainGlobals Z.mg) (g : Got Z.K Z.mg x st f fd) (ha : Z.mg x = some (.ref (ga Z.K x))) : Mkr Z (tabsT mk Z.K) fd.code q := by
  have e : f = ga Z.K x := by
    have := g.m.symm.trans ha
    cases this
    rfl
  obtain ⟨oc, od, kV, doc, pm, an, cdv, ct, osl, rfl, lk, hcd⟩ := g.F.ex
  exact t.mkr hB hm e lk
end Ps

/-! The head's defs in two parts, each shown by a run of its own: the kernel's memory is bound for each. -/
namespace Ps
open PySem PySem.Spec PyProof.Rows PySem.W L2 He LamX

theorem inQ_k {α : Type} {g : Addr → Option Obj} (k : Nat → Frag → List Addr → α) : ∀ (l : List Addr) (v : Nat) (acc : Frag) (nx : List Addr), inQ g k l v acc nx = k (inQ g (fun v acc nx => (v, acc, nx)) l v acc nx).1 (inQ g (fun v acc nx => (v, acc, nx)) l v acc nx).2.1 (inQ g (fun v acc nx => (v, acc, nx)) l v acc nx).2.2
  | [], v, acc, nx => rfl
  | a :: r, v, acc, nx => by
    unfold inQ
    simp only [HandSHeadRun.frNat_eq]
    cases Nat.land (Nat.shiftRight v a) 1 with
    | zero =>
      cases e : g a with
      | none => exact inQ_k k r v acc nx
      | some o => exact inQ_k k r _ _ _
    | succ n => exact inQ_k k r v acc nx
theorem outQ_k {α : Type} {g : Addr → Option Obj} (k : Frag → α) : ∀ (n : Nat) (l : List Addr) (v : Nat) (acc : Frag), outQ g k n l v acc = k (outQ g (fun x => x) n l v acc)
  | 0, l, v, acc => by
    unfold outQ
    rw [inQ_k, inQ_k (fun _ acc _ => acc)]
  | n + 1, l, v, acc => by
    unfold outQ
    rw [inQ_k, inQ_k (fun v acc nx => outQ g (fun x => x) n nx v acc)]
    exact outQ_k k n _ _ _
theorem dropR_k {α : Type} (ts : List Addr) (k : Frag → α) : ∀ (K acc : Frag), dropR ts acc K k = k (dropR ts acc K fun x => x)
  | [], acc => rfl
  | (a, o) :: r, acc => by
    unfold dropR
    cases ts.contains a with
    | true => exact dropR_k ts k r acc
    | false => exact dropR_k ts k r _
theorem SaysP.app {fn : List DefP} {ex : Frag → Bool} {K : Frag} (i : Nat) (h1 : SaysP (fn.take i) ex K) (h2 : SaysP (fn.drop i) (fun _ => true) K) : SaysP fn ex K := by
  have a1 : (ex K && (fn.take i).all fun d => d.ok K) = true := congrArg (fun z : AlP => z.1) h1
  have a2 : ((fn.take i).map fun d => fnP K (d.at_.a K)) = (fn.take i).map DefP.val := congrArg (fun z : AlP => z.2) h1
  have b1 : (true && (fn.drop i).all fun d => d.ok K) = true := congrArg (fun z : AlP => z.1) h2
  have b2 : ((fn.drop i).map fun d => fnP K (d.at_.a K)) = (fn.drop i).map DefP.val := congrArg (fun z : AlP => z.2) h2
  obtain ⟨c1, c2⟩ := ba a1
  obtain ⟨_, c3⟩ := ba b1
  have e1 : (fn.all fun d => d.ok K) = true := by
    rw [← List.take_append_drop i fn, List.all_append, c2, c3]
    rfl
  have e2 : (fn.map fun d => fnP K (d.at_.a K)) = fn.map DefP.val := by
    have q : ((fn.take i ++ fn.drop i).map fun d => fnP K (d.at_.a K)) = (fn.take i ++ fn.drop i).map DefP.val := by rw [List.map_append, List.map_append, a2, b2]
    rwa [List.take_append_drop] at q
  show obsP fn ex K = valP fn
  unfold obsP valP
  rw [c1, e1, e2]
  rfl
theorem obsM_both {fn : List DefP} {ex : Frag → Bool} {mk : List (At × Str)} {K0 : Frag} {h : Heap} (i : Nat) (X : GoodM h.get? K0) (e1 : obsM (fn.take i) ex mk K0 = valP (fn.take i)) (e2 : obsM (fn.drop i) (fun _ => true) mk K0 = valP (fn.drop i)) : ∃ K : Frag, K.In h ∧ SaysP fn ex K ∧ TabsH mk K h := by
  have hk : ∀ (K : Frag), K = dropR ((tabsOf mk K0).map (·.2)) [] K0 (fun x => x) → K.In h := fun K e => by
    obtain ⟨K', q, m⟩ := dropR_eq ((tabsOf mk K0).map (·.2)) K0 [] fun x : Frag => x
    rw [e, q]
    exact GoodM.in_ fun p hp => (m p hp).elim (fun z => by cases z) (X p)
  unfold obsM at e1 e2
  rw [dropR_k] at e1 e2
  have XK := hk _ rfl
  generalize dropR ((tabsOf mk K0).map (·.2)) [] K0 (fun x => x) = K at e1 e2 XK
  have a1 : (mkB mk K0 K && (ex K && (fn.take i).all fun d => d.ok K)) = true := congrArg (fun z : AlP => z.1) e1
  have a2 : ((fn.take i).map fun d => fnP K (d.at_.a K)) = (fn.take i).map DefP.val := congrArg (fun z : AlP => z.2) e1
  have b1 : (mkB mk K0 K && (true && (fn.drop i).all fun d => d.ok K)) = true := congrArg (fun z : AlP => z.1) e2
  have b2 : ((fn.drop i).map fun d => fnP K (d.at_.a K)) = (fn.drop i).map DefP.val := congrArg (fun z : AlP => z.2) e2
  obtain ⟨c1, c2⟩ := ba a1
  obtain ⟨_, d2⟩ := ba b1
  refine ⟨K, XK, SaysP.app i ?_ ?_, ?_⟩
  · show obsP _ ex K = valP _
    unfold obsP valP
    rw [c2, a2]
  · show obsP _ (fun _ => true) K = valP _
    unfold obsP valP
    rw [d2, b2]
  · obtain ⟨t1, t2⟩ := ba c1
    obtain ⟨t3, t4⟩ := ba t2
    have at_ : ∀ p ∈ tabsOf mk K, isTab (K0.lookup p.2) = true ∧ codeHdIn K p.1 p.2 = true ∧ (K.lookup p.2).isNone = true := fun p hp => by
      obtain ⟨a1, a2⟩ := ba (List.all_eq_true.mp t1 p hp)
      exact ⟨a1, ba a2⟩
    exact ⟨fun p hp => X.in_ _ _ (isTab_ok (at_ p hp).1), fun p hp => Option.isNone_iff_eq_none.mp (at_ p hp).2.2, fun p hp => codeHd_of_K XK (at_ p hp).2.1, fun m hm => by
      obtain ⟨q, hq⟩ := Option.isSome_iff_exists.mp (List.all_eq_true.mp t3 m hm)
      exact ⟨q.1, q.2, hq⟩, t4⟩
def hookT2 (n i : Nat) (fn : List DefP) (ex : Frag → Bool) (mk : List (At × Str)) : Hook where
  α := AlP × AlP
  obs := fun s => (obsTG n (fn.take i) ex mk s.heap.get?, obsTG n (fn.drop i) (fun _ => true) mk s.heap.get?)
  val := fun _ => (valP (fn.take i), valP (fn.drop i))
  says := fun _ h => ∃ K : Frag, K.In h ∧ SaysP fn ex K ∧ TabsH mk K h
  of := fun _ s e => by
    have e1 : obsTG n (fn.take i) ex mk s.heap.get? = valP (fn.take i) := congrArg (fun z : AlP × AlP => z.1) e
    have e2 : obsTG n (fn.drop i) (fun _ => true) mk s.heap.get? = valP (fn.drop i) := congrArg (fun z : AlP × AlP => z.2) e
    unfold obsTG at e1 e2
    rw [outQ_k] at e1 e2
    exact obsM_both i (outQ_okM (g := s.heap.get?) (Φ := fun z => GoodM s.heap.get? z) (k := fun x => x) (fun acc q => q) n _ 0 _ (goodM_nil _)) e1 e2
  keeps := fun _ _ _ ⟨K, hK, c, t⟩ k => ⟨K, Frag.In.keeps hK k, c, t.keeps k⟩
theorem obsTG2_eq {n i : Nat} {fn : List DefP} {ex : Frag → Bool} {mk : List (At × Str)} {g : Addr → Option Obj} {s : Shared} (h : ∀ a, g a = s.heap.get? a) : (obsTG n (fn.take i) ex mk g, obsTG n (fn.drop i) (fun _ => true) mk g) = (hookT2 n i fn ex mk).obs s := by
  have e : g = s.heap.get? := funext h
  rw [e] <;> rfl
/-- two runs, one head -/
theorem run_both {r : OpenRow} {q : Program} {n i M : Nat} {fn : List DefP} {ex : Frag → Bool} {mk : List (At × Str)} {loose : List PySem.Str} {w : World} {g : SharedT → Addr → Option Obj}
    (h1 : HandSHeadRun.RunEq r q (hookT n (fn.take i) ex mk) (fun s => obsTG n (fn.take i) ex mk (g s)) M loose w) (h2 : HandSHeadRun.RunEq r q (hookT n (fn.drop i) (fun _ => true) mk) (fun s => obsTG n (fn.drop i) (fun _ => true) mk (g s)) M loose w) :
    HandSHeadRun.RunEq r q (hookT2 n i fn ex mk) (fun s => (obsTG n (fn.take i) ex mk (g s), obsTG n (fn.drop i) (fun _ => true) mk (g s))) M loose w := by
  intro os
  have a := h1 os
  have b := h2 os
  revert a b
  generalize HandSHeadRun.endF _ _ _ _ _ = o
  intro a b
  cases o with
  | none => cases a
  | some s =>
    have a' := Option.some.inj a
    have b' := Option.some.inj b
    have a1 := congrArg (fun z : Bool × _ × AlP => z.1) a'
    have a2 := congrArg (fun z : Bool × _ × AlP => z.2.1) a'
    have a3 := congrArg (fun z : Bool × _ × AlP => z.2.2) a'
    have b3 := congrArg (fun z : Bool × _ × AlP => z.2.2) b'
    exact congrArg some (Prod.ext a1 (Prod.ext a2 (Prod.ext a3 b3)))
end Ps

/-! The head's defs in many parts, a run for each. -/
namespace Ps
open PySem PySem.Spec PyProof.Rows PySem.W L2 He LamX

abbrev Part := (Frag → Bool) × List DefP
abbrev exTrue : Frag → Bool := fun _ => true
def allEx (ps : List Part) (K : Frag) : Bool := ps.all fun p => p.1 K
def allFn (ps : List Part) : List DefP := (ps.map (·.2)).flatten
theorem SaysP.of {fn : List DefP} {ex : Frag → Bool} {K : Frag} (h1 : ex K = true) (h2 : (fn.all fun d => d.ok K) = true) (h3 : (fn.map fun d => fnP K (d.at_.a K)) = fn.map DefP.val) : SaysP fn ex K := by
  show obsP fn ex K = valP fn
  unfold obsP valP
  rw [h1, h2, h3]
  rfl
theorem SaysP.parts {fn : List DefP} {ex : Frag → Bool} {K : Frag} (h : SaysP fn ex K) : ex K = true ∧ (fn.all fun d => d.ok K) = true ∧ (fn.map fun d => fnP K (d.at_.a K)) = fn.map DefP.val := by
  have a1 : (ex K && fn.all fun d => d.ok K) = true := congrArg (fun z : AlP => z.1) h
  have a2 : (fn.map fun d => fnP K (d.at_.a K)) = fn.map DefP.val := congrArg (fun z : AlP => z.2) h
  obtain ⟨c1, c2⟩ := ba a1
  exact ⟨c1, c2, a2⟩
theorem says_all {K : Frag} : ∀ {ps : List Part}, (∀ p ∈ ps, SaysP p.2 p.1 K) → SaysP (allFn ps) (allEx ps) K
  | [], _ => .of rfl rfl rfl
  | p :: r, h => by
    obtain ⟨a1, a2, a3⟩ := (h p (List.mem_cons_self ..)).parts
    obtain ⟨b1, b2, b3⟩ := (says_all fun q hq => h q (List.mem_cons_of_mem _ hq)).parts
    refine .of ?_ ?_ ?_
    · show (p.1 K && allEx r K) = true
      rw [a1, b1]
      rfl
    · show ((p.2 ++ allFn r).all fun d => d.ok K) = true
      rw [List.all_append, a2, b2]
      rfl
    · show (p.2 ++ allFn r).map _ = (p.2 ++ allFn r).map DefP.val
      rw [List.map_append, List.map_append, a3, b3]
theorem obsM_part {fn : List DefP} {ex : Frag → Bool} {mk : List (At × Str)} {K0 : Frag} (e : obsM fn ex mk K0 = valP fn) : mkB mk K0 (dropR ((tabsOf mk K0).map (·.2)) [] K0 fun x => x) = true ∧ SaysP fn ex (dropR ((tabsOf mk K0).map (·.2)) [] K0 fun x => x) := by
  unfold obsM at e
  rw [dropR_k] at e
  generalize dropR ((tabsOf mk K0).map (·.2)) [] K0 (fun x => x) = K at e ⊢
  have a1 : (mkB mk K0 K && (ex K && fn.all fun d => d.ok K)) = true := congrArg (fun z : AlP => z.1) e
  have a2 : (fn.map fun d => fnP K (d.at_.a K)) = fn.map DefP.val := congrArg (fun z : AlP => z.2) e
  obtain ⟨c1, c2⟩ := ba a1
  obtain ⟨c3, c4⟩ := ba c2
  exact ⟨c1, .of c3 c4 a2⟩
theorem tabs_of {mk : List (At × Str)} {K0 K : Frag} {h : Heap} (X : GoodM h.get? K0) (XK : K.In h) (c1 : mkB mk K0 K = true) : TabsH mk K h := by
  obtain ⟨t1, t2⟩ := ba c1
  obtain ⟨t3, t4⟩ := ba t2
  have at_ : ∀ p ∈ tabsOf mk K, isTab (K0.lookup p.2) = true ∧ codeHdIn K p.1 p.2 = true ∧ (K.lookup p.2).isNone = true := fun p hp => by
    obtain ⟨a1, a2⟩ := ba (List.all_eq_true.mp t1 p hp)
    exact ⟨a1, ba a2⟩
  exact ⟨fun p hp => X.in_ _ _ (isTab_ok (at_ p hp).1), fun p hp => Option.isNone_iff_eq_none.mp (at_ p hp).2.2, fun p hp => codeHd_of_K XK (at_ p hp).2.1, fun m hm => by
    obtain ⟨q, hq⟩ := Option.isSome_iff_exists.mp (List.all_eq_true.mp t3 m hm)
    exact ⟨q.1, q.2, hq⟩, t4⟩
def obL (n : Nat) (ps : List Part) (mk : List (At × Str)) (g : Addr → Option Obj) : List AlP := ps.map fun p => obsTG n p.2 p.1 mk g
theorem obL_all {n : Nat} {mk : List (At × Str)} {g : Addr → Option Obj} : ∀ {ps : List Part}, obL n ps mk g = ps.map (fun p => valP p.2) → ∀ p ∈ ps, obsTG n p.2 p.1 mk g = valP p.2
  | [], _, p, hp => by cases hp
  | q :: r, e, p, hp => by
    have e1 : obsTG n q.2 q.1 mk g = valP q.2 := (List.cons.inj e).1
    have e2 : obL n r mk g = r.map (fun p => valP p.2) := (List.cons.inj e).2
    rcases List.mem_cons.mp hp with z | z
    · rw [z]; exact e1
    · exact obL_all e2 p z
def hookTL (n : Nat) (ps : List Part) (hps : ps ≠ []) (mk : List (At × Str)) : Hook where
  α := List AlP
  obs := fun s => obL n ps mk s.heap.get?
  val := fun _ => ps.map fun p => valP p.2
  says := fun _ h => ∃ K : Frag, K.In h ∧ SaysP (allFn ps) (allEx ps) K ∧ TabsH mk K h
  of := fun _ s e => by
    have all := obL_all e
    have X : GoodM s.heap.get? (outQ s.heap.get? (fun x => x) n [mainGlobals] 0 (frG s.heap.get? [cStatics])) := outQ_okM (g := s.heap.get?) (Φ := fun z => GoodM s.heap.get? z) (k := fun x => x) (fun acc q => q) n _ 0 _ (goodM_nil _)
    generalize hK0 : outQ s.heap.get? (fun x => x) n [mainGlobals] 0 (frG s.heap.get? [cStatics]) = K0 at X
    have part : ∀ p ∈ ps, mkB mk K0 (dropR ((tabsOf mk K0).map (·.2)) [] K0 fun x => x) = true ∧ SaysP p.2 p.1 (dropR ((tabsOf mk K0).map (·.2)) [] K0 fun x => x) := fun p hp => by
      have e1 := all p hp
      unfold obsTG at e1
      rw [outQ_k, hK0] at e1
      exact obsM_part e1
    have XK : (dropR ((tabsOf mk K0).map (·.2)) [] K0 fun x => x).In s.heap := by
      obtain ⟨K', q, m⟩ := dropR_eq ((tabsOf mk K0).map (·.2)) K0 [] fun x : Frag => x
      rw [q]
      exact GoodM.in_ fun p hp => (m p hp).elim (fun z => by cases z) (X p)
    generalize (dropR ((tabsOf mk K0).map (·.2)) [] K0 fun x => x) = K at part XK
    obtain ⟨p0, hp0⟩ := List.exists_mem_of_ne_nil ps hps
    exact ⟨K, XK, says_all fun p hp => (part p hp).2, tabs_of X XK (part p0 hp0).1⟩
  keeps := fun _ _ _ ⟨K, hK, c, t⟩ k => ⟨K, Frag.In.keeps hK k, c, t.keeps k⟩
theorem obL_eq {n : Nat} {ps : List Part} {hps : ps ≠ []} {mk : List (At × Str)} {g : Addr → Option Obj} {s : Shared} (h : ∀ a, g a = s.heap.get? a) : obL n ps mk g = (hookTL n ps hps mk).obs s := by
  have e : g = s.heap.get? := funext h
  rw [e] <;> rfl
section
variable {r : OpenRow} {q : Program} {n M : Nat} {ps : List Part} {p : Part} {mk : List (At × Str)} {loose : List PySem.Str} {w : World} {g : SharedT → Addr → Option Obj}
theorem runL_one (h1 : HandSHeadRun.RunEq r q (hookT n p.2 p.1 mk) (fun s => obsTG n p.2 p.1 mk (g s)) M loose w) : HandSHeadRun.RunEq r q (hookTL n [p] (by simp) mk) (fun s => obL n [p] mk (g s)) M loose w := by
  intro os
  have a := h1 os
  revert a
  generalize HandSHeadRun.endF _ _ _ _ _ = o
  intro a
  cases o with
  | none => cases a
  | some s =>
    have a' := Option.some.inj a
    have a1 := congrArg (fun z : Bool × _ × AlP => z.1) a'
    have a2 := congrArg (fun z : Bool × _ × AlP => z.2.1) a'
    have a3 := congrArg (fun z : Bool × _ × AlP => z.2.2) a'
    exact congrArg some (Prod.ext a1 (Prod.ext a2 (congrArg (fun z => [z]) a3)))
theorem runL_cons {hps : ps ≠ []} (h1 : HandSHeadRun.RunEq r q (hookT n p.2 p.1 mk) (fun s => obsTG n p.2 p.1 mk (g s)) M loose w) (h2 : HandSHeadRun.RunEq r q (hookTL n ps hps mk) (fun s => obL n ps mk (g s)) M loose w) :
    HandSHeadRun.RunEq r q (hookTL n (p :: ps) (by simp) mk) (fun s => obL n (p :: ps) mk (g s)) M loose w := by
  intro os
  have a := h1 os
  have b := h2 os
  revert a b
  generalize HandSHeadRun.endF _ _ _ _ _ = o
  intro a b
  cases o with
  | none => cases a
  | some s =>
    have a' := Option.some.inj a
    have b' := Option.some.inj b
    have a1 := congrArg (fun z : Bool × _ × AlP => z.1) a'
    have a2 := congrArg (fun z : Bool × _ × AlP => z.2.1) a'
    have a3 := congrArg (fun z : Bool × _ × AlP => z.2.2) a'
    have b3 := congrArg (fun z : Bool × _ × List AlP => z.2.2) b'
    exact congrArg some (Prod.ext a1 (Prod.ext a2 (List.cons_eq_cons.mpr ⟨a3, b3⟩)))
end
end Ps

/-! k35: the runs, early in the one file. -/
namespace Ps
open PySem PySem.Spec PyProof.Rows PySem.W L2 He

def fnAll : List DefP := [⟨.g "is_integer", "is_integer", "is_integer", s_is_integer, []⟩,
  ⟨.g "common", "common", "common", s_common, []⟩,
  ⟨.g "share_of_number", "share_of_number", "share_of_number", s_share_of_number, []⟩,
  ⟨.m "Share" "__init__", "__init__", "Share.__init__", s_Share_dd_init, [.int 1]⟩,
  ⟨.m "Book" "__init__", "__init__", "Book.__init__", s_Book_dd_init, []⟩,
  ⟨.g "is_number", "is_number", "is_number", s_is_number, []⟩,
  ⟨.m "Share" "__add__", "__add__", "Share.__add__", s_Share_dd_add, []⟩,
  ⟨.m "Share" "by", "by", "Share.by", s_Share_by, []⟩,
  ⟨.m "Share" "minus", "minus", "Share.minus", s_Share_minus, []⟩,
  ⟨.m "Share" "__lt__", "__lt__", "Share.__lt__", s_Share_dd_lt, []⟩,
  ⟨.m "Share" "__le__", "__le__", "Share.__le__", s_Share_dd_le, []⟩,
  ⟨.m "Share" "__gt__", "__gt__", "Share.__gt__", s_Share_dd_gt, []⟩,
  ⟨.m "Share" "__ge__", "__ge__", "Share.__ge__", s_Share_dd_ge, []⟩,
  ⟨.m "Share" "__eq__", "__eq__", "Share.__eq__", s_Share_dd_eq, []⟩,
  ⟨.sm "Book" "own_plans", "own_plans", "Book.own_plans", s_Book_own_plans, []⟩,
  ⟨.g "is_word", "is_word", "is_word", s_is_word, []⟩,
  ⟨.g "is_pair", "is_pair", "is_pair", s_is_pair, []⟩,
  ⟨.g "shares_of", "shares_of", "shares_of", s_shares_of, []⟩,
  ⟨.g "are_kinds", "are_kinds", "are_kinds", s_are_kinds, []⟩,
  ⟨.g "as_make", "as_make", "as_make", s_as_make, []⟩,
  ⟨.m "Prices" "__init__", "__init__", "Prices.__init__", s_Prices_dd_init, []⟩,
  ⟨.m "Prices" "__getitem__", "__getitem__", "Prices.__getitem__", s_Prices_dd_getitem, []⟩,
  ⟨.m "Prices" "__contains__", "__contains__", "Prices.__contains__", s_Prices_dd_contains, []⟩,
  ⟨.m "Prices" "words", "words", "Prices.words", s_Prices_words, []⟩,
  ⟨.m "Prices" "own", "own", "Prices.own", s_Prices_own, []⟩,
  ⟨.m "Prices" "general", "general", "Prices.general", s_Prices_general, []⟩,
  ⟨.m "Prices" "best", "best", "Prices.best", s_Prices_best, []⟩,
  ⟨.g "check_prices", "check_prices", "check_prices", s_check_prices, []⟩,
  ⟨.g "check_book", "check_book", "check_book", s_check_book, []⟩,
  ⟨.g "worst_for", "worst_for", "worst_for", s_worst_for, []⟩,
  ⟨.g "floor_of", "floor_of", "floor_of", s_floor_of, []⟩,
  ⟨.g "opponent", "opponent", "opponent", s_opponent, []⟩,
  ⟨.m "BadArgument" "__init__", "__init__", "BadArgument.__init__", s_BadArgument_dd_init, []⟩,
  ⟨.m "BadPrice" "__init__", "__init__", "BadPrice.__init__", s_BadPrice_dd_init, []⟩,
  ⟨.m "BadKind" "__init__", "__init__", "BadKind.__init__", s_BadKind_dd_init, []⟩,
  ⟨.g "is_above", "is_above", "is_above", s_is_above, []⟩,
  ⟨.g "is_after", "is_after", "is_after", s_is_after, []⟩,
  ⟨.g "is_setting", "is_setting", "is_setting", s_is_setting, []⟩,
  ⟨.g "as_kept", "as_kept", "as_kept", s_as_kept, []⟩,
  ⟨.g "_law_numbers", "_law_numbers", "_law_numbers", s_lw_numbers, []⟩,
  ⟨.g "_law_pool", "_law_pool", "_law_pool", s_lw_pool, []⟩,
  ⟨.g "_law_draw", "_law_draw", "_law_draw", s_lw_draw, []⟩,
  ⟨.g "_law_sorted", "_law_sorted", "_law_sorted", s_lw_sorted, []⟩,
  ⟨.g "_law_opened", "_law_opened", "_law_opened", s_lw_opened, []⟩,
  ⟨.g "_law_lesser", "_law_lesser", "_law_lesser", s_lw_lesser, []⟩,
  ⟨.g "_law_prices", "_law_prices", "_law_prices", s_lw_prices, []⟩,
  ⟨.g "_law_made_prices", "_law_made_prices", "_law_made_prices", s_lw_made_prices, []⟩,
  ⟨.g "_law_best_of", "_law_best_of", "_law_best_of", s_lw_best_of, []⟩,
  ⟨.g "_law_worst", "_law_worst", "_law_worst", s_lw_worst, []⟩,
  ⟨.g "_law_told", "_law_told", "_law_told", s_lw_told, []⟩,
  ⟨.g "law", "law", "law", s_lw_law, []⟩]
def exX (K : Frag) : Bool := excB K "BadPrice" "value" && (excB K "BadKind" "word" && excB K "BadArgument" "value")
def exM (K : Frag) : Bool := exmB K "BadArgument" "BadArgument" true && decide (subIn K (.ref (ga K "BadArgument")) (.type "StopIteration") = some false)
def kitsB (K : Frag) (x : Str) : Bool := ([.type "int", .type "str", .type "NoneType"] : List Value).all fun t => decide (kitOne K t (.ref (ga K x)) = some false)
def exAll (K : Frag) : Bool := statB K "Book" "own_plans" && (shB K && (prB K && (bkB K && (exX K && (numB K (ga K "Share") "add" && (kitsB K "Prices" && (exM K && freeB K ["dict", "repr"])))))))
theorem statOf_Book_own_plans {K : Frag} (c : exAll K = true) : statB K "Book" "own_plans" = true := (ba c).1
def mkAll : List (At × Str) := [(.m "Prices" "__init__", "Prices.__init__.<locals>.<lambda>"), (.g "_law_sorted", "_law_sorted.<locals>.<lambda>")]
abbrev Rw : OpenRow := OpenLaw.row PySem.Challenge.rw_planswitches_k35_floors_and_worst_kinds
abbrev pt0 : Part := (exAll, (fnAll.drop 0).take 25)
abbrev pt1 : Part := (exTrue, (fnAll.drop 25).take 25)
abbrev pt2 : Part := (exTrue, (fnAll.drop 50).take 25)
abbrev parts : List Part := [pt0, pt1, pt2]
theorem parts_says {K : Frag} (c : SaysP (allFn parts) (allEx parts) K) : SaysP fnAll exAll K := by
  have e1 : allFn parts = fnAll := by rfl
  have e2 : allEx parts K = exAll K := by
    show (exAll K && true) = exAll K
    exact Bool.and_true _
  obtain ⟨a1, a2, a3⟩ := c.parts
  rw [e1] at a2 a3
  rw [e2] at a1
  exact .of a1 a2 a3
abbrev hk : Hook := hookTL 6 parts (List.cons_ne_nil _ _) mkAll
def ob (s : SharedT) : List AlP := obL 6 parts mkAll (HandSHeadRun.getT s)
theorem ob_eq (s : SharedT) : ob s = hk.obs s.abs := obL_eq (HandSHeadRun.getT_eq s)
def loose : List PySem.Str := (["_wall", "__name__", "PlanError", "BadArgument", "BadPrice", "BadBook", "BadState", "BadRow", "BadShare", "DividedByNothing", "BadKind", "is_integer", "common", "share_of_number", "is_number", "Share", "LETTERS", "MOST_LETTERS", "MOST_KINDS", "is_word"] : List PySem.Str) ++ (["is_pair", "shares_of", "are_kinds", "as_make", "Prices", "check_prices", "FIELDS", "MOST_TRIES", "MOST_LOOK", "EVER", "is_above", "is_after", "is_setting", "as_kept", "ascending", "Book", "check_book", "is_row", "check_row", "Player"] : List PySem.Str) ++ (["worst_for", "floor_of", "opponent", "_law_numbers", "_law_pool", "_law_draw", "_law_sorted", "_law_lesser", "_law_opened", "_law_prices", "_law_made_prices", "_law_best_of", "_law_worst", "_law_told"] : List PySem.Str)
theorem run_0 (w : World) : HandSHeadRun.RunEq Rw (view Rw.prog [60]) (hookT 6 pt0.2 pt0.1 mkAll) (fun s => obsTG 6 pt0.2 pt0.1 mkAll (HandSHeadRun.getT s)) 30000 loose w := by
  intro os
  kernel_rfl
theorem run_1 (w : World) : HandSHeadRun.RunEq Rw (view Rw.prog [60]) (hookT 6 pt1.2 pt1.1 mkAll) (fun s => obsTG 6 pt1.2 pt1.1 mkAll (HandSHeadRun.getT s)) 30000 loose w := by
  intro os
  kernel_rfl
theorem run_2 (w : World) : HandSHeadRun.RunEq Rw (view Rw.prog [60]) (hookT 6 pt2.2 pt2.1 mkAll) (fun s => obsTG 6 pt2.2 pt2.1 mkAll (HandSHeadRun.getT s)) 30000 loose w := by
  intro os
  kernel_rfl
theorem run (w : World) : HandSHeadRun.RunEq Rw (view Rw.prog [60]) hk ob 30000 loose w := by
  have h := runL_cons (r := Rw) (q := view Rw.prog [60]) (n := 6) (M := 30000) (mk := mkAll) (loose := loose) (w := w) (g := HandSHeadRun.getT) (p := pt0) (run_0 w) (runL_cons (p := pt1) (run_1 w) (runL_one (p := pt2) (run_2 w)))
  exact h

end Ps

/-! Fractions in lowest terms, in plain Lean. -/
namespace Ps
def lowG (t u : Int) : Int := if u < 0 then -(Int.gcd t u : Int) else (Int.gcd t u : Int)
/-- what Share keeps of a top and an under -/
def low (t u : Int) : Int × Int := (t.fdiv (lowG t u), u.fdiv (lowG t u))
theorem gcd_pos {t u : Int} (hu : u ≠ 0) : 0 < Int.gcd t u := Int.gcd_pos_of_ne_zero_right t hu
theorem lowG_ne {t u : Int} (hu : u ≠ 0) : lowG t u ≠ 0 := by
  have h := gcd_pos (t := t) hu
  unfold lowG
  split <;> omega
theorem lowG_abs (t u : Int) : (lowG t u).natAbs = Int.gcd t u := by
  unfold lowG
  split <;> omega
theorem lowG_dvd_left (t u : Int) : lowG t u ∣ t := by
  have h : (Int.gcd t u : Int) ∣ t := Int.gcd_dvd_left ..
  unfold lowG
  split
  · exact Int.neg_dvd.mpr h
  · exact h
theorem lowG_dvd_right (t u : Int) : lowG t u ∣ u := by
  have h : (Int.gcd t u : Int) ∣ u := Int.gcd_dvd_right ..
  unfold lowG
  split
  · exact Int.neg_dvd.mpr h
  · exact h
theorem low_fst {t u : Int} (hu : u ≠ 0) : (low t u).1 * lowG t u = t := by
  obtain ⟨c, hc⟩ := lowG_dvd_left t u
  show t.fdiv (lowG t u) * lowG t u = t
  have : t.fdiv (lowG t u) = c := by
    rw [Int.fdiv_eq_of_eq_mul_right (lowG_ne hu) hc]
  rw [this, Int.mul_comm, ← hc]
theorem low_snd {t u : Int} (hu : u ≠ 0) : (low t u).2 * lowG t u = u := by
  obtain ⟨c, hc⟩ := lowG_dvd_right t u
  show u.fdiv (lowG t u) * lowG t u = u
  have : u.fdiv (lowG t u) = c := by
    rw [Int.fdiv_eq_of_eq_mul_right (lowG_ne hu) hc]
  rw [this, Int.mul_comm, ← hc]
theorem lowG_scale (k t u : Int) (hu : u ≠ 0) (hk : k ≠ 0) : lowG (k * t) (k * u) = k * lowG t u := by
  unfold lowG
  rw [Int.gcd_mul_left]
  have e : ((k.natAbs * Int.gcd t u : Nat) : Int) = (k.natAbs : Int) * (Int.gcd t u : Int) := by push_cast; rfl
  rw [e]
  rcases Int.lt_or_gt_of_ne hk with h | h
  · have ek : (k.natAbs : Int) = -k := by omega
    rw [ek]
    rcases Int.lt_or_gt_of_ne hu with h' | h'
    · have : 0 < k * u := Int.mul_pos_of_neg_of_neg h h'
      rw [if_neg (by omega), if_pos h', Int.neg_mul, Int.mul_neg]
    · have : k * u < 0 := Int.mul_neg_of_neg_of_pos h h'
      rw [if_pos this, if_neg (by omega), Int.neg_mul, Int.neg_neg]
  · have ek : (k.natAbs : Int) = k := by omega
    rw [ek]
    rcases Int.lt_or_gt_of_ne hu with h' | h'
    · have : k * u < 0 := Int.mul_neg_of_pos_of_neg h h'
      rw [if_pos this, if_pos h', Int.mul_neg]
    · have : 0 < k * u := Int.mul_pos h h'
      rw [if_neg (by omega), if_neg (by omega)]
/-- from an equation by products -/
theorem fdiv_of {a b c : Int} (hb : b ≠ 0) (h : a = c * b) : a.fdiv b = c := by
  rw [Int.fdiv_eq_of_eq_mul_right hb (by rw [h, Int.mul_comm])]
theorem low_scale (k t u : Int) (hu : u ≠ 0) (hk : k ≠ 0) : low (k * t) (k * u) = low t u := by
  have h1 := low_fst (t := t) hu
  have h2 := low_snd (t := t) hu
  have hg := lowG_ne (t := t) hu
  have hkg : k * lowG t u ≠ 0 := Int.mul_ne_zero hk hg
  unfold low
  rw [lowG_scale k t u hu hk]
  refine Prod.ext ?_ ?_
  · show (k * t).fdiv (k * lowG t u) = (low t u).1
    refine fdiv_of hkg ?_
    rw [show (low t u).1 * (k * lowG t u) = k * ((low t u).1 * lowG t u) by rw [Int.mul_left_comm], h1]
  · show (k * u).fdiv (k * lowG t u) = (low t u).2
    refine fdiv_of hkg ?_
    rw [show (low t u).2 * (k * lowG t u) = k * ((low t u).2 * lowG t u) by rw [Int.mul_left_comm], h2]
/-- the same fraction -/
theorem low_of {t u a b k : Int} (hb : b ≠ 0) (hk : k ≠ 0) (h1 : t = k * a) (h2 : u = k * b) : low t u = low a b := by
  rw [h1, h2, low_scale k a b hb hk]
theorem low_pos {t u : Int} (hu : u ≠ 0) : 0 < (low t u).2 := by
  have h2 := low_snd (t := t) hu
  have hg := gcd_pos (t := t) hu
  unfold lowG at h2
  rcases Int.lt_or_gt_of_ne hu with h | h
  · rw [if_pos h] at h2
    rcases Int.lt_trichotomy (low t u).2 0 with z | z | z
    · have := Int.mul_pos_of_neg_of_neg z (show -(Int.gcd t u : Int) < 0 by omega)
      omega
    · rw [z, Int.zero_mul] at h2; omega
    · exact z
  · rw [if_neg (by omega)] at h2
    rcases Int.lt_trichotomy (low t u).2 0 with z | z | z
    · have := Int.mul_neg_of_neg_of_pos z (show (0 : Int) < (Int.gcd t u : Int) by omega)
      omega
    · rw [z, Int.zero_mul] at h2; omega
    · exact z
theorem low_le1 {t u : Int} (hu : u ≠ 0) : (low t u).1.natAbs ≤ t.natAbs := by
  have h := congrArg Int.natAbs (low_fst (t := t) hu)
  rw [Int.natAbs_mul, lowG_abs] at h
  rw [← h]
  exact Nat.le_mul_of_pos_right _ (gcd_pos hu)
theorem low_le2 {t u : Int} (hu : u ≠ 0) : (low t u).2.natAbs ≤ u.natAbs := by
  have h := congrArg Int.natAbs (low_snd (t := t) hu)
  rw [Int.natAbs_mul, lowG_abs] at h
  rw [← h]
  exact Nat.le_mul_of_pos_right _ (gcd_pos hu)
theorem low_gcd {t u : Int} (hu : u ≠ 0) : Int.gcd (low t u).1 (low t u).2 = 1 := by
  have h1 := low_fst (t := t) hu
  have h2 := low_snd (t := t) hu
  have e : Int.gcd t u = Int.gcd (low t u).1 (low t u).2 * Int.gcd t u := by
    have := Int.gcd_mul_right (low t u).1 (lowG t u) (low t u).2
    rw [h1, h2, lowG_abs] at this
    exact this
  have hg := gcd_pos (t := t) hu
  have := Nat.eq_of_mul_eq_mul_right hg (show 1 * Int.gcd t u = Int.gcd (low t u).1 (low t u).2 * Int.gcd t u by rw [Nat.one_mul]; exact e)
  exact this.symm
theorem low_id {t u : Int} (hu : 0 < u) (hg : Int.gcd t u = 1) : low t u = (t, u) := by
  have e : lowG t u = 1 := by
    unfold lowG
    rw [if_neg (by omega), hg]; rfl
  unfold low
  rw [e, Int.fdiv_one, Int.fdiv_one]
theorem low_low {t u : Int} (hu : u ≠ 0) : low (low t u).1 (low t u).2 = low t u := by
  rw [low_id (low_pos hu) (low_gcd hu)]
theorem low_one (t : Int) : low t 1 = (t, 1) := low_id (by decide) (by simp)
/-! sums, products and quotients of fractions in lowest terms -/
theorem low_ex (t : Int) {u : Int} (hu : u ≠ 0) : ∃ a b g, low t u = (a, b) ∧ g ≠ 0 ∧ 0 < b ∧ t = a * g ∧ u = b * g :=
  ⟨(low t u).1, (low t u).2, lowG t u, rfl, lowG_ne hu, low_pos hu, (low_fst hu).symm, (low_snd hu).symm⟩
theorem low_add {t u c d : Int} (hu : u ≠ 0) (hd : d ≠ 0) : low ((low t u).1 * (low c d).2 + (low c d).1 * (low t u).2) ((low t u).2 * (low c d).2) = low (t * d + c * u) (u * d) := by
  obtain ⟨a, b, g, e1, hg, hb, rfl, rfl⟩ := low_ex t hu
  obtain ⟨p, q, h, e2, hh, hq, rfl, rfl⟩ := low_ex c hd
  rw [e1, e2]
  symm
  refine low_of (k := g * h) (Int.ne_of_gt (Int.mul_pos hb hq)) (Int.mul_ne_zero hg hh) ?_ ?_
  · show a * g * (q * h) + p * h * (b * g) = g * h * (a * q + p * b)
    grind
  · show b * g * (q * h) = g * h * (b * q)
    grind
theorem low_sub {t u c d : Int} (hu : u ≠ 0) (hd : d ≠ 0) : low ((low t u).1 * (low c d).2 + -(low c d).1 * (low t u).2) ((low t u).2 * (low c d).2) = low (t * d - c * u) (u * d) := by
  obtain ⟨a, b, g, e1, hg, hb, rfl, rfl⟩ := low_ex t hu
  obtain ⟨p, q, h, e2, hh, hq, rfl, rfl⟩ := low_ex c hd
  rw [e1, e2]
  symm
  refine low_of (k := g * h) (Int.ne_of_gt (Int.mul_pos hb hq)) (Int.mul_ne_zero hg hh) ?_ ?_
  · show a * g * (q * h) - p * h * (b * g) = g * h * (a * q + -p * b)
    grind
  · show b * g * (q * h) = g * h * (b * q)
    grind
theorem low_mul {t u c d : Int} (hu : u ≠ 0) (hd : d ≠ 0) : low ((low t u).1 * (low c d).1) ((low t u).2 * (low c d).2) = low (t * c) (u * d) := by
  obtain ⟨a, b, g, e1, hg, hb, rfl, rfl⟩ := low_ex t hu
  obtain ⟨p, q, h, e2, hh, hq, rfl, rfl⟩ := low_ex c hd
  rw [e1, e2]
  symm
  refine low_of (k := g * h) (Int.ne_of_gt (Int.mul_pos hb hq)) (Int.mul_ne_zero hg hh) ?_ ?_
  · show a * g * (p * h) = g * h * (a * p)
    grind
  · show b * g * (q * h) = g * h * (b * q)
    grind
theorem low_ne0 {t u : Int} (hu : u ≠ 0) : (low t u).1 = 0 ↔ t = 0 := by
  have h := low_fst (t := t) hu
  constructor
  · intro z
    rw [z, Int.zero_mul] at h
    exact h.symm
  · intro z
    rw [z] at h
    rcases Int.mul_eq_zero.mp h with y | y
    · rw [z]; exact y
    · exact absurd y (lowG_ne hu)
theorem low_by {t u c d : Int} (hu : u ≠ 0) (hd : d ≠ 0) (hc : c ≠ 0) : low ((low t u).1 * (low c d).2) ((low t u).2 * (low c d).1) = low (t * d) (u * c) := by
  have z : ¬ (low c d).1 = 0 := fun y => hc ((low_ne0 (t := c) hd).mp y)
  obtain ⟨a, b, g, e1, hg, hb, rfl, rfl⟩ := low_ex t hu
  obtain ⟨p, q, h, e2, hh, hq, rfl, rfl⟩ := low_ex c hd
  rw [e2] at z
  rw [e1, e2]
  symm
  refine low_of (k := g * h) (Int.mul_ne_zero (Int.ne_of_gt hb) z) (Int.mul_ne_zero hg hh) ?_ ?_
  · show a * g * (q * h) = g * h * (a * q)
    grind
  · show b * g * (p * h) = g * h * (b * p)
    grind
theorem low_neg {t u : Int} (hu : u ≠ 0) : low (-(low t u).1) (low t u).2 = low (-t) u := by
  obtain ⟨a, b, g, e1, hg, hb, rfl, rfl⟩ := low_ex t hu
  rw [e1]
  symm
  refine low_of (k := g) (Int.ne_of_gt hb) hg ?_ ?_
  · show -(a * g) = g * -a
    grind
  · show b * g = g * b
    grind
/-- a fraction in lowest terms, its sign turned -/
theorem low_neg_eq {t u : Int} (hu : u ≠ 0) : low (-t) u = (-(low t u).1, (low t u).2) := by
  rw [← low_neg hu]
  refine low_id (low_pos hu) ?_
  rw [Int.neg_gcd]
  exact low_gcd hu
def iabs (i : Int) : Int := if i < 0 then -i else i
theorem iabs_eq (i : Int) : iabs i = (i.natAbs : Int) := by unfold iabs; split <;> omega
theorem low_abs {t u : Int} (hu : u ≠ 0) : low (iabs (low t u).1) (low t u).2 = low (iabs t) (iabs u) := by
  obtain ⟨a, b, g, e1, hg, hb, rfl, rfl⟩ := low_ex t hu
  rw [e1, iabs_eq, iabs_eq, iabs_eq]
  symm
  refine low_of (k := g.natAbs) (Int.ne_of_gt hb) (by omega) ?_ ?_
  · show ((a * g).natAbs : Int) = g.natAbs * (a.natAbs : Int)
    rw [Int.natAbs_mul, Int.natCast_mul, Int.mul_comm]
  · show ((b * g).natAbs : Int) = g.natAbs * b
    rw [Int.natAbs_mul, Int.natCast_mul, Int.mul_comm, show (b.natAbs : Int) = b by omega]
theorem low_floor {t u : Int} (hu : u ≠ 0) : (low t u).1 / (low t u).2 = t.fdiv u := by
  obtain ⟨a, b, g, e1, hg, hb, rfl, rfl⟩ := low_ex t hu
  rw [e1]
  show a / b = (a * g).fdiv (b * g)
  rcases Int.lt_or_gt_of_ne hg with h | h
  · rw [show a * g = -(a * -g) by grind, show b * g = -(b * -g) by grind, Int.neg_fdiv_neg, Int.fdiv_eq_ediv_of_nonneg _ (Int.le_of_lt (Int.mul_pos hb (by omega))), Int.mul_ediv_mul_of_pos_left _ _ (by omega)]
  · rw [Int.fdiv_eq_ediv_of_nonneg _ (Int.le_of_lt (Int.mul_pos hb h)), Int.mul_ediv_mul_of_pos_left _ _ h]
theorem gcd_step {x y : Int} (hx : 0 ≤ x) (hy : 0 ≤ y) : Int.gcd y (x % y) = Int.gcd x y := by
  obtain ⟨m, rfl⟩ := Int.eq_ofNat_of_zero_le hx
  obtain ⟨n, rfl⟩ := Int.eq_ofNat_of_zero_le hy
  rw [← Int.natCast_emod, Int.gcd_natCast_natCast, Int.gcd_natCast_natCast, Nat.gcd_comm n, ← Nat.gcd_rec, Nat.gcd_comm]
end Ps

/-! Shares: the promises of the defs of shares.py where nothing is raised. -/
namespace Ps
open PySem PySem.Spec PyProof.Rows PySem.W L2

/-! ### floor division by any divisor but 0, below 2 ^ 9000 -/
def CDivG (_ j : Int) : Prop := j ≠ 0 ∧ j.natAbs.log2 < 9000
theorem op_fdivG {X : Cx} : OpR X (binaryOp .FloorDiv) (rI CDivG fun i j => .int (i.fdiv j)) := opI fun i j _ _ _ _ _ hc q => floordiv_int hc.1 q (.inl (PyProof.noPylong_of_log2 hc.2))
theorem divG {i j : Int} {b : Nat} (h : j ≠ 0) (hb : j.natAbs < 2 ^ b) (h0 : 0 < b) (h9 : b ≤ 9000) : CDivG i j := ⟨h, Nat.lt_of_lt_of_le (PySem.Flt.log2_lt_of h0 hb) h9⟩

/-- the name of a built-in class -/
theorem pe_ty {X : Cx} {x : Str} {pos : Pos} (T : String) (hg : Gl X x) (hm : X.mg x = none) (hv : bootBuiltins x = some (.type T)) (hn : x ≠ "__name__" := by decide) (hd : (x == ("__debug__" : Str)) = false := by decide) : PE X (.Name x pos) (tC (.ty T)) := pe_bltn hg hm hv rfl hn hd

/-! ### the data -/
def shF (t u : Int) : List (Str × V) := [("own_top", .int t), ("own_under", .int u)]
/-- v is a share t / u -/
def Sh (C : Addr) (H : Hp) (v : V) (q : Int × Int) : Prop := ∃ a dx, v = .ref a ∧ H a = some (.ins C dx (shF q.1 q.2))
theorem Sh.mono {C : Addr} {H H' : Hp} {v : V} {q : Int × Int} (e : Same H H') (h : Sh C H v q) : Sh C H' v q := by
  obtain ⟨a, dx, hv, h⟩ := h
  exact ⟨a, dx, hv, e _ _ h⟩
theorem Sh.ins {C : Addr} {H : Hp} {v : V} {q : Int × Int} (h : Sh C H v q) : InsC C H v := by
  obtain ⟨a, dx, hv, h⟩ := h
  exact ⟨a, dx, _, hv, h⟩
theorem shF_top (t u : Int) : (shF t u).lookup ("own_top" : Str) = some (.int t) := rfl
theorem shF_under (t u : Int) : (shF t u).lookup ("own_under" : Str) = some (.int u) := by
  unfold shF
  rw [List.lookup_cons]
  rfl

/-- a number: a share or an int -/
def Nb (C : Addr) (H : Hp) (v : V) (q : Int × Int) : Prop := Sh C H v q ∨ ∃ i, v = .int i ∧ q = (i, 1)
theorem Nb.mono {C : Addr} {H H' : Hp} {v : V} {q : Int × Int} (e : Same H H') (h : Nb C H v q) : Nb C H' v q := by
  rcases h with h | h
  · exact .inl (h.mono e)
  · exact .inr h
theorem Nb.num {C : Addr} {H : Hp} {v : V} {q : Int × Int} (h : Nb C H v q) : InsC C H v ∨ ∃ i, v = .int i := by
  rcases h with h | ⟨i, h, _⟩
  · exact .inl h.ins
  · exact .inr ⟨i, h⟩
/-- sizes: both parts below 2 ^ n, the under not 0 -/
structure Sz (n : Nat) (q : Int × Int) : Prop where
  ne : q.2 ≠ 0
  t : q.1.natAbs < 2 ^ n
  u : q.2.natAbs < 2 ^ n

/-- what stands at the top of the text, as far as shares go -/
structure ShT (Z : Cz) (C : Addr) : Prop where
  cl : Cls Z.K C
  nT : NoAttr Z.K C "own_top"
  nU : NoAttr Z.K C "own_under"
  mgC : Z.mg "Share" = some (.ref C)
  isi : Z.mg "isinstance" = none
  int : Z.mg "int" = none
  bool : Z.mg "bool" = none
  abs : Z.mg "abs" = none
  ha : findIn Z.K (.ref C) "__class__" = some (some (.builtin "object.__class__"))
  hn : specialIn Z.K (.builtin "object.__class__") "__get__" = some (some (.builtin "getset_descriptor.__get__"))
  htk : takesIn Z.K (.builtin "object.__class__") = some true
  hm : mroIn Z.K C (.type "object") = some true
  kCC : kitOne Z.K (.ref C) (.ref C) = some true
  kCI : kitOne Z.K (.ref C) (.type "int") = some false
  kIC : kitOne Z.K (.type "int") (.ref C) = some false
  kTC : ∀ t ∈ ([.type "bool", .type "str", .type "NoneType", .type "list", .type "tuple", .type "dict"] : List Value), kitOne Z.K t (.ref C) = some false
theorem ShT.ty {Z : Cz} {C : Addr} (T : ShT Z C) {H : Hp} {a dx : Addr} {fs : List (Str × V)} (h : H a = some (.ins C dx fs)) : TyX Z.K H (.ref a) (.ref C) := .base (.ins h T.cl T.ha T.hn T.htk T.hm)

section
variable {Z : Cz}

/-- is_integer -/
def spIsInt (K : Frag) : Sp := fun vs H Q _ => ∃ v t, vs = [v] ∧ TyX K H v t ∧ ((t = .type "int" ∧ Q (.bl true) H) ∨ (t = .type "bool" ∧ Q (.bl false) H) ∨ (kitOne K t (.type "int") = some false ∧ Q (.bl false) H))
theorem ok_is_integer {f C : Addr} {fd : FuncData} (F : Fun Z.K "is_integer" "is_integer" s_is_integer f fd) (T : ShT Z C) : Z.ok CX0 1 f fd ["value"] (spIsInt Z.K) := by
  refine F.ok sc_is_integer (fun vs H Q E h => ?_) (fun cdv A outer s H vs Q E hr h => ?_)
  · obtain ⟨v, t, rfl, _⟩ := h
    rfl
  · obtain ⟨v, t, rfl, ty, h⟩ := h
    refine ⟨_, pss_one (ps_ret (pe_and (pe_callB call_isi (by rfl) T.isi (by decide +kernel) (pa_cons (pv 0) (pa_cons (pe_ty "int" (by rfl) T.int (by decide +kernel)) pa_nil)))
      (pe_one (pe_not (pe_callB call_isi (by rfl) T.isi (by decide +kernel) (pa_cons (pv 0) (pa_cons (pe_ty "bool" (by rfl) T.bool (by decide +kernel)) pa_nil))))))), ?_⟩
    rcases h with ⟨rfl, q⟩ | ⟨rfl, q⟩ | ⟨e, q⟩
    · refine ⟨_, rfl, _, _, _, _, true, rfl, .ty "int", ty, kit_ty (by decide +kernel), _, rfl, iteT ?_⟩
      exact ⟨_, rfl, _, _, _, _, false, rfl, .ty "bool", ty, kit_ty (by decide +kernel), _, rfl, q⟩
    · refine ⟨_, rfl, _, _, _, _, true, rfl, .ty "int", ty, kit_ty (by decide +kernel), _, rfl, iteT ?_⟩
      exact ⟨_, rfl, _, _, _, _, true, rfl, .ty "bool", ty, kit_ty (by decide +kernel), _, rfl, q⟩
    · exact ⟨_, rfl, _, _, _, _, false, rfl, .ty "int", ty, e, _, rfl, iteF q⟩

/-- common: the greatest common divisor -/
def spCommon : Sp := fun vs H Q _ => ∃ a b : Int, vs = [.int a, .int b] ∧ Q (.int (Int.gcd a b)) H
theorem ok_common {f C : Addr} {fd : FuncData} (F : Fun Z.K "common" "common" s_common f fd) (T : ShT Z C) : Z.ok CX0 1 f fd ["one", "other"] spCommon := by
  refine F.ok sc_common (fun vs H Q E h => ?_) (fun cdv A outer s H vs Q E hr h => ?_)
  · obtain ⟨a, b, rfl, _⟩ := h
    rfl
  · obtain ⟨a, b, rfl, h⟩ := h
    refine ⟨_, pss_cons (ps_set (i := 0) sc_common.nd rfl (Or.inl rfl) (pe_callB call_abs (by rfl) T.abs (by decide +kernel) (pa_cons (pv 0) pa_nil)))
      (pss_cons (ps_set (i := 1) sc_common.nd rfl (Or.inl rfl) (pe_callB call_abs (by rfl) T.abs (by decide +kernel) (pa_cons (pv 1) pa_nil)))
      (pss_cons (ps_while PassesOwn.never (pt_cmpR op_ne (pv 1) pe_int (nomark _)) (pss_one (ps_par (i := 0) (j := 1) (by rfl) sc_common.nd rfl rfl (by decide) rfl rfl (pa_cons (pv 1) (pa_cons (pe_op op_mod (pv 0) (pv 1)) pa_nil)) (by rfl))))
      (pss_one (ps_ret (pv 0))))), ?_⟩
    refine ⟨_, rfl, _, rfl, _, rfl, _, rfl, ?_⟩
    refine while_by (fun σ H' => ∃ x y : Int, σ = [some (.int x), some (.int y)] ∧ H' = H ∧ 0 ≤ x ∧ 0 ≤ y ∧ Int.gcd x y = Int.gcd a b) (fun σ _ => match σ with | [_, some (.int y)] => y.toNat | _ => 0)
      ⟨_, _, rfl, rfl, ?_, ?_, ?_⟩ (fun σ H1 z => ?_) (fun σ H1 Q Q' m z => ?_)
    · split <;> omega
    · split <;> omega
    · rw [show (if a < 0 then -a else a) = ((a.natAbs : Nat) : Int) by split <;> omega, show (if b < 0 then -b else b) = ((b.natAbs : Nat) : Int) by split <;> omega]
      rfl
    · obtain ⟨x, y, rfl, rfl, hx, hy, e⟩ := z
      refine ⟨_, rfl, rfl, _, rfl, ?_⟩
      by_cases hy0 : y = 0
      · subst hy0
        refine iteNS rfl ?_
        refine ⟨_, rfl, ?_⟩
        have e2 : Int.gcd x 0 = x.natAbs := Int.gcd_zero_right ..
        rw [e2] at e
        rw [← e] at h
        have e3 : ((x.natAbs : Nat) : Int) = x := by omega
        rw [e3] at h
        exact h
      · rw [decide_eq_false (show ¬ V.int y = V.int 0 from fun z => hy0 (V.int.inj z))]
        refine iteT ?_
        refine ⟨_, rfl, _, rfl, _, rfl, _, _, rfl, rfl, (by show (0 : Int) < y; omega), _, _, rfl, ?_⟩
        have h1 := Int.emod_nonneg x hy0
        have h2 := Int.emod_lt_of_pos x (show 0 < y by omega)
        refine ⟨⟨_, _, rfl, rfl, hy, h1, ?_⟩, ?_⟩
        · rw [← e]
          exact gcd_step hx hy
        · show (x % y).toNat < y.toNat
          omega
    · obtain ⟨v, hv, z1, k, hk, z2⟩ := z
      exact ⟨v, hv, z1, k, hk, m _ _ z2⟩

/-- Share.__init__ -/
def spShInit (C : Addr) : Sp := fun vs H Q _ => ∃ (p dx : Addr) (t u : Int), vs = [.ref p, .int t, .int u] ∧ H p = some (.ins C dx []) ∧ u ≠ 0 ∧ u.natAbs < 2 ^ 9000 ∧
  ∀ H' : Hp, (∀ b, b ≠ p → H' b = H b) → H' p = some (.ins C dx (shF (low t u).1 (low t u).2)) → Q .non H'
theorem ok_ShInit {f C : Addr} {fd : FuncData} (F : FunD Z.K "__init__" "Share.__init__" (defArgs s_Share_dd_init) (defBody s_Share_dd_init) (defScope s_Share_dd_init) [.int 1] [] f fd) (T : ShT Z C)
    (c1 : Cal Z CX0 1 "is_integer" ["value"] [] (spIsInt Z.K)) (c2 : Cal Z CX0 1 "common" ["one", "other"] [] spCommon) :
    Z.ok CX0 2 f fd ["self", "top", "under"] (spShInit C) := by
  refine F.ok sc_Share_dd_init (fun vs H Q E h => ?_) (fun cdv A outer s H vs Q E hr h => ?_)
  · obtain ⟨p, dx, t, u, rfl, _⟩ := h
    rfl
  · obtain ⟨p, dx, t, u, rfl, hp, hu, hb, k⟩ := h
    have nd := sc_Share_dd_init.nd
    refine ⟨_, pss_cons (ps_if (PW.pt (pw_or (pt_not (pt_val (pe_cal c1 hr (by rfl) pass0 (pa_cons (pv 1) pa_nil)))) (pw_or (pt_not (pt_val (pe_cal c1 hr (by rfl) pass0 (pa_cons (pv 2) pa_nil)))) (pw_or1 (pt_cmpR op_eq (pv 2) pe_int (nomark _)))))) (pss_one ps_never) pss_nil)
      (pss_cons (ps_set (i := 3) nd rfl (Or.inl rfl) (pe_cal c2 hr (by rfl) pass0 (pa_cons (pv 1) (pa_cons (pv 2) pa_nil))))
      (pss_cons (ps_if (pt_cmpR op_lt (pv 2) pe_int (nomark _)) (pss_one (ps_set (i := 3) nd rfl (Or.inl rfl) (pe_un un_neg (pv 3)))) pss_nil)
      (pss_cons (ps_fld (pv 0) (pe_op op_fdivG (pv 1) (pv 3)) rfl)
      (pss_one (ps_fld (pv 0) (pe_op op_fdivG (pv 2) (pv 3)) rfl))))), ?_⟩
    refine ⟨_, rfl, _, _, rfl, .base (.int _), .inl ⟨rfl, _, rfl, iteF ?_⟩⟩
    refine ⟨_, rfl, _, _, rfl, .base (.int _), .inl ⟨rfl, _, rfl, iteF ?_⟩⟩
    refine ⟨_, rfl, rfl, _, rfl, ?_⟩
    rw [decide_eq_false (show ¬ V.int u = V.int 0 from fun z => hu (V.int.inj z))]
    refine iteF ?_
    refine ⟨_, rfl, _, rfl, _, _, rfl, ?_⟩
    have fin : ∀ (H1 : Hp) (σ : L2.St), H1 = H → σ = [some (.ref p), some (.int t), some (.int u), some (.int (lowG t u))] → (tSeq (sFld Z.K (tVar 0) (tOp (rI CDivG fun i j => .int (i.fdiv j)) (tVar 1) (tVar 3)) "own_top") (sFld Z.K (tVar 0) (tOp (rI CDivG fun i j => .int (i.fdiv j)) (tVar 2) (tVar 3)) "own_under")) { nx := fun _ H' => Q .non H', rt := Q } σ H1 := by
      rintro H1 σ rfl rfl
      have hG : CDivG t (lowG t u) := divG (b := 9000) (lowG_ne hu) (Nat.lt_of_le_of_lt (by rw [lowG_abs]; exact Int.gcd_le_natAbs_right _ hu) hb) (by decide) (Nat.le_refl _)
      refine ⟨_, rfl, _, rfl, _, _, rfl, rfl, hG, _, rfl, p, C, dx, _, rfl, hp, T.cl, T.nT, (by show 0 < 1000; decide), ?_⟩
      refine ⟨_, rfl, _, rfl, _, _, rfl, rfl, hG, _, rfl, p, C, dx, _, rfl, upd_same, T.cl, T.nU, (by show 1 < 1000; decide), ?_⟩
      refine k _ (fun b hb => by rw [upd_ne hb, upd_ne hb]) ?_
      rw [upd_same]
      rfl
    refine ⟨_, rfl, _, _, rfl, rfl, _, rfl, ?_⟩
    by_cases h0 : u < 0
    · rw [decide_eq_true h0]
      refine iteT ?_
      refine ⟨_, rfl, _, rfl, ?_⟩
      refine fin _ _ rfl ?_
      unfold lowG
      rw [if_pos h0]
      rfl
    · rw [decide_eq_false h0]
      refine iteF ?_
      refine fin _ _ rfl ?_
      unfold lowG
      rw [if_neg h0]
      rfl
end
end Ps

/-! Shares: their operators, where nothing is raised. -/
namespace Ps
open PySem PySem.Spec PyProof.Rows PySem.W L2

theorem Same.upd {H : Hp} {p : Addr} {o : HO} (h : H p = none) : Same H (L2.upd H p o) := fun b u e => by
  rw [upd_ne (ne_of_none e h)]
  exact e
/-- Share(t, u): what its reading asks -/
theorem mk_sh {C : Addr} {H : Hp} {Q : VK} {E : XK} {t u : Int} (hu : u ≠ 0) (hb : u.natAbs < 2 ^ 9000) (k : ∀ v H', Same H H' → Sh C H' v (low t u) → Q v H') :
    ∀ x dx, H x = none → H dx = none → dx ≠ x → spShInit C [.ref x, .int t, .int u] (upd (upd H dx (.own x)) x (.ins C dx [])) (fun v H2 => v = .non ∧ Q (.ref x) H2) E := by
  intro x dx hx hdx hne
  refine ⟨x, dx, t, u, rfl, upd_same, hu, hb, fun H' h1 h2 => ⟨rfl, ?_⟩⟩
  refine k _ H' (fun b o e => ?_) ⟨x, dx, rfl, h2⟩
  rw [h1 b (ne_of_none e hx), upd_ne (ne_of_none e hx), upd_ne (ne_of_none e hdx)]
  exact e

/-- what the shares' defs promise one another -/
abbrev CShare (Z : Cz) (C : Addr) : Prop := CalC Z CX0 2 C "Share" ["self", "top", "under"] [] (spShInit C)
abbrev CShare1 (Z : Cz) (C : Addr) : Prop := CalC Z CX0 2 C "Share" ["self", "top", "under"] [.int 1] (spShInit C)
/-- from a number a share -/
def spNum (C : Addr) : Sp := fun vs H Q _ => ∃ v q, vs = [v] ∧ Nb C H v q ∧ ∀ v' H', Same H H' → Sh C H' v' q → Q v' H'
abbrev CNum (Z : Cz) (C : Addr) : Prop := Cal Z CX0 4 "share_of_number" ["value"] [] (spNum C)
/-- two numbers to a share -/
def spBin (C : Addr) (n : Nat) (g : Int × Int → Int × Int → Int × Int) : Sp := fun vs H Q _ => ∃ x y q r, vs = [x, y] ∧ Sh C H x q ∧ Nb C H y r ∧ Sz n q ∧ Sz n r ∧ ∀ v H', Same H H' → Sh C H' v (g q r) → Q v H'
def spUn (C : Addr) (n : Nat) (g : Int × Int → Int × Int) : Sp := fun vs H Q _ => ∃ x q, vs = [x] ∧ Sh C H x q ∧ Sz n q ∧ ∀ v H', Same H H' → Sh C H' v (g q) → Q v H'
def gAdd (q r : Int × Int) : Int × Int := low (q.1 * r.2 + r.1 * q.2) (q.2 * r.2)
def gMul (q r : Int × Int) : Int × Int := low (q.1 * r.1) (q.2 * r.2)
def gNeg (q : Int × Int) : Int × Int := low (-q.1) q.2
def gAbs (q : Int × Int) : Int × Int := low (iabs q.1) q.2

theorem lt_mul {i j : Int} (hi : i.natAbs < 2 ^ 4000) (hj : j.natAbs < 2 ^ 4000) : CMulW i j := wide_mul hi hj (by decide) (by decide) (by decide)
theorem mul_lt {i j : Int} (hi : i.natAbs < 2 ^ 4000) (hj : j.natAbs < 2 ^ 4000) : (i * j).natAbs < 2 ^ 9000 :=
  Nat.lt_of_lt_of_le (wide_lt hi hj) (Nat.pow_le_pow_right (by decide) (by decide))
theorem lt_up {i : Int} {m n : Nat} (h : i.natAbs < 2 ^ m) (hm : m ≤ n) : i.natAbs < 2 ^ n := Nat.lt_of_lt_of_le h (Nat.pow_le_pow_right (by decide) hm)

section
variable {Z : Cz} {f C : Addr} {fd : FuncData}
theorem ok_share_of_number (F : Fun Z.K "share_of_number" "share_of_number" s_share_of_number f fd) (T : ShT Z C) (c1 : Cal Z CX0 1 "is_integer" ["value"] [] (spIsInt Z.K)) (c2 : CShare1 Z C) : Z.ok CX0 4 f fd ["value"] (spNum C) := by
  refine F.ok sc_share_of_number (fun vs H Q E h => ?_) (fun cdv A outer s H vs Q E hr h => ?_)
  · obtain ⟨v, q, rfl, _⟩ := h
    rfl
  · obtain ⟨v, q, rfl, hv, k⟩ := h
    refine ⟨_, pss_cons (ps_if (pt_val (pe_callB call_isi (by rfl) T.isi (by decide +kernel) (pa_cons (pv 0) (pa_cons (pe_glob (v := .ref C) rfl T.mgC rfl) pa_nil)))) (pss_one (ps_ret (pv 0))) pss_nil)
      (pss_cons (ps_if (pt_not (pt_val (pe_cal c1 (hr.mono (by decide)) (by rfl) pass0 (pa_cons (pv 0) pa_nil)))) (pss_one ps_never) pss_nil)
      (pss_one (ps_ret (pe_calC c2 hr (by rfl) pass0 (pa_cons (pv 0) pa_nil))))), ?_⟩
    rcases hv with hv | ⟨i, rfl, rfl⟩
    · obtain ⟨a, dx, rfl, ha⟩ := id hv
      refine ⟨_, rfl, _, _, _, _, true, rfl, .own C, T.ty ha, T.kCC, _, rfl, iteT ?_⟩
      exact ⟨_, rfl, k _ _ (Same.refl _) hv⟩
    · refine ⟨_, rfl, _, _, _, _, false, rfl, .own C, .base (.int _), T.kIC, _, rfl, iteF ?_⟩
      refine ⟨_, rfl, _, _, rfl, .base (.int _), .inl ⟨rfl, _, rfl, iteF ?_⟩⟩
      refine ⟨_, rfl, mk_sh (by decide) (by decide +kernel) fun v' H' e z => k _ _ e ?_⟩
      rw [low_one] at z
      exact z

theorem ok_neg (F : Fun Z.K "__neg__" "Share.__neg__" s_Share_dd_neg f fd) (T : ShT Z C) (c2 : CShare Z C) : Z.ok CX0 4 f fd ["self"] (spUn C 9000 gNeg) := by
  refine F.ok sc_Share_dd_neg (fun vs H Q E h => ?_) (fun cdv A outer s H vs Q E hr h => ?_)
  · obtain ⟨v, q, rfl, _⟩ := h
    rfl
  · obtain ⟨x, q, rfl, ⟨a, dx, rfl, ha⟩, hq, k⟩ := h
    refine ⟨_, pss_one (ps_ret (pe_calC c2 hr (by rfl) pass0 (pa_cons (pe_un un_neg (pe_fld (pv 0) rfl)) (pa_cons (pe_fld (pv 0) rfl) pa_nil)))), ?_⟩
    refine ⟨_, rfl, a, C, dx, _, _, rfl, ha, T.cl, T.nT, shF_top _ _, _, rfl, _, rfl, a, C, dx, _, _, rfl, ha, T.cl, T.nU, shF_under _ _, ?_⟩
    exact mk_sh hq.ne hq.u k
theorem ok_abs (F : Fun Z.K "__abs__" "Share.__abs__" s_Share_dd_abs f fd) (T : ShT Z C) (c2 : CShare Z C) : Z.ok CX0 4 f fd ["self"] (spUn C 9000 gAbs) := by
  refine F.ok sc_Share_dd_abs (fun vs H Q E h => ?_) (fun cdv A outer s H vs Q E hr h => ?_)
  · obtain ⟨v, q, rfl, _⟩ := h
    rfl
  · obtain ⟨x, q, rfl, ⟨a, dx, rfl, ha⟩, hq, k⟩ := h
    refine ⟨_, pss_one (ps_ret (pe_calC c2 hr (by rfl) pass0 (pa_cons (pe_callB call_abs (by rfl) T.abs (by decide +kernel) (pa_cons (pe_fld (pv 0) rfl) pa_nil)) (pa_cons (pe_fld (pv 0) rfl) pa_nil)))), ?_⟩
    refine ⟨_, rfl, a, C, dx, _, _, rfl, ha, T.cl, T.nT, shF_top _ _, _, rfl, _, rfl, a, C, dx, _, _, rfl, ha, T.cl, T.nU, shF_under _ _, ?_⟩
    exact mk_sh hq.ne hq.u k
theorem ok_add (F : Fun Z.K "__add__" "Share.__add__" s_Share_dd_add f fd) (T : ShT Z C) (c1 : CNum Z C) (c2 : CShare Z C) : Z.ok CX0 5 f fd ["self", "other"] (spBin C 4000 gAdd) := by
  refine F.ok sc_Share_dd_add (fun vs H Q E h => ?_) (fun cdv A outer s H vs Q E hr h => ?_)
  · obtain ⟨x, y, q, r, rfl, _⟩ := h
    rfl
  · obtain ⟨x, y, q, r, rfl, hx, hy, hq, hr', k⟩ := h
    refine ⟨_, pss_cons (ps_set (i := 1) sc_Share_dd_add.nd rfl (Or.inl rfl) (pe_cal c1 hr (by rfl) pass0 (pa_cons (pv 1) pa_nil)))
      (pss_one (ps_ret (pe_calC c2 (hr.mono (by decide)) (by rfl) pass0 (pa_cons (pe_op op_add (pe_op op_mulW (pe_fld (pv 0) rfl) (pe_fld (pv 1) rfl)) (pe_op op_mulW (pe_fld (pv 1) rfl) (pe_fld (pv 0) rfl))) (pa_cons (pe_op op_mulW (pe_fld (pv 0) rfl) (pe_fld (pv 1) rfl)) pa_nil))))), ?_⟩
    refine ⟨_, rfl, _, r, rfl, hy, fun y' H1 e1 hy' => ?_⟩
    obtain ⟨a, dx, rfl, ha⟩ := hx.mono e1
    obtain ⟨b, dy, rfl, hb⟩ := id hy'
    refine ⟨_, rfl, a, C, dx, _, _, rfl, ha, T.cl, T.nT, shF_top _ _, _, rfl, b, C, dy, _, _, rfl, hb, T.cl, T.nU, shF_under _ _, _, _, rfl, rfl, lt_mul hq.t hr'.u, ?_⟩
    refine ⟨_, rfl, b, C, dy, _, _, rfl, hb, T.cl, T.nT, shF_top _ _, _, rfl, a, C, dx, _, _, rfl, ha, T.cl, T.nU, shF_under _ _, _, _, rfl, rfl, lt_mul hr'.t hq.u, _, _, rfl, rfl, ?_⟩
    refine ⟨_, rfl, a, C, dx, _, _, rfl, ha, T.cl, T.nU, shF_under _ _, _, rfl, b, C, dy, _, _, rfl, hb, T.cl, T.nU, shF_under _ _, _, _, rfl, rfl, lt_mul hq.u hr'.u, ?_⟩
    exact mk_sh (Int.mul_ne_zero hq.ne hr'.ne) (mul_lt hq.u hr'.u) fun v H' e z => k _ _ (e1.trans e) z
theorem ok_mul (F : Fun Z.K "__mul__" "Share.__mul__" s_Share_dd_mul f fd) (T : ShT Z C) (c1 : CNum Z C) (c2 : CShare Z C) : Z.ok CX0 5 f fd ["self", "other"] (spBin C 4000 gMul) := by
  refine F.ok sc_Share_dd_mul (fun vs H Q E h => ?_) (fun cdv A outer s H vs Q E hr h => ?_)
  · obtain ⟨x, y, q, r, rfl, _⟩ := h
    rfl
  · obtain ⟨x, y, q, r, rfl, hx, hy, hq, hr', k⟩ := h
    refine ⟨_, pss_cons (ps_set (i := 1) sc_Share_dd_mul.nd rfl (Or.inl rfl) (pe_cal c1 hr (by rfl) pass0 (pa_cons (pv 1) pa_nil)))
      (pss_one (ps_ret (pe_calC c2 (hr.mono (by decide)) (by rfl) pass0 (pa_cons (pe_op op_mulW (pe_fld (pv 0) rfl) (pe_fld (pv 1) rfl)) (pa_cons (pe_op op_mulW (pe_fld (pv 0) rfl) (pe_fld (pv 1) rfl)) pa_nil))))), ?_⟩
    refine ⟨_, rfl, _, r, rfl, hy, fun y' H1 e1 hy' => ?_⟩
    obtain ⟨a, dx, rfl, ha⟩ := hx.mono e1
    obtain ⟨b, dy, rfl, hb⟩ := id hy'
    refine ⟨_, rfl, a, C, dx, _, _, rfl, ha, T.cl, T.nT, shF_top _ _, _, rfl, b, C, dy, _, _, rfl, hb, T.cl, T.nT, shF_top _ _, _, _, rfl, rfl, lt_mul hq.t hr'.t, ?_⟩
    refine ⟨_, rfl, a, C, dx, _, _, rfl, ha, T.cl, T.nU, shF_under _ _, _, rfl, b, C, dy, _, _, rfl, hb, T.cl, T.nU, shF_under _ _, _, _, rfl, rfl, lt_mul hq.u hr'.u, ?_⟩
    exact mk_sh (Int.mul_ne_zero hq.ne hr'.ne) (mul_lt hq.u hr'.u) fun v H' e z => k _ _ (e1.trans e) z

def gSub (q r : Int × Int) : Int × Int := gAdd q (gNeg r)
def gBy (q r : Int × Int) : Int × Int := low (q.1 * r.2) (q.2 * r.1)
theorem Sz.neg {n : Nat} {q : Int × Int} (h : Sz n q) : Sz n (gNeg q) := by
  refine ⟨Int.ne_of_gt (low_pos h.ne), Nat.lt_of_le_of_lt (low_le1 h.ne) ?_, Nat.lt_of_le_of_lt (low_le2 h.ne) h.u⟩
  rw [Int.natAbs_neg]
  exact h.t
theorem Sz.up {m n : Nat} {q : Int × Int} (h : Sz m q) (hm : m ≤ n) : Sz n q := ⟨h.ne, lt_up h.t hm, lt_up h.u hm⟩
abbrev CAdd (Z : Cz) (C : Addr) : Prop := CalS Z CX0 5 C "__add__" ["self", "other"] (spBin C 4000 gAdd)
abbrev CMul (Z : Cz) (C : Addr) : Prop := CalS Z CX0 5 C "__mul__" ["self", "other"] (spBin C 4000 gMul)
abbrev CNeg (Z : Cz) (C : Addr) : Prop := CalS Z CX0 4 C "__neg__" ["self"] (spUn C 9000 gNeg)
theorem ok_radd (F : Fun Z.K "__radd__" "Share.__radd__" s_Share_dd_radd f fd) (T : ShT Z C) (c1 : CAdd Z C) (N : NumF Z.K C "add") : Z.ok CX0 6 f fd ["self", "other"] (spBin C 4000 gAdd) := by
  refine F.ok sc_Share_dd_radd (fun vs H Q E h => ?_) (fun cdv A outer s H vs Q E hr h => ?_)
  · obtain ⟨x, y, q, r, rfl, _⟩ := h
    rfl
  · obtain ⟨x, y, q, r, rfl, hx, hy, hq, hr', k⟩ := h
    refine ⟨_, pss_one (ps_ret (pe_op (op_num (op := .Add) c1 N hr pass0) (pv 0) (pv 1))), ?_⟩
    exact ⟨_, rfl, _, rfl, hx.ins, hy.num, _, _, _, _, rfl, hx, hy, hq, hr', k⟩
theorem ok_rmul (F : Fun Z.K "__rmul__" "Share.__rmul__" s_Share_dd_rmul f fd) (T : ShT Z C) (c1 : CMul Z C) (N : NumF Z.K C "mul") : Z.ok CX0 6 f fd ["self", "other"] (spBin C 4000 gMul) := by
  refine F.ok sc_Share_dd_rmul (fun vs H Q E h => ?_) (fun cdv A outer s H vs Q E hr h => ?_)
  · obtain ⟨x, y, q, r, rfl, _⟩ := h
    rfl
  · obtain ⟨x, y, q, r, rfl, hx, hy, hq, hr', k⟩ := h
    refine ⟨_, pss_one (ps_ret (pe_op (op_num (op := .Mult) c1 N hr pass0) (pv 0) (pv 1))), ?_⟩
    exact ⟨_, rfl, _, rfl, hx.ins, hy.num, _, _, _, _, rfl, hx, hy, hq, hr', k⟩
theorem ok_sub (F : Fun Z.K "__sub__" "Share.__sub__" s_Share_dd_sub f fd) (T : ShT Z C) (c1 : CAdd Z C) (c2 : CNum Z C) (c3 : CNeg Z C) (N : NumF Z.K C "add") : Z.ok CX0 6 f fd ["self", "other"] (spBin C 4000 gSub) := by
  refine F.ok sc_Share_dd_sub (fun vs H Q E h => ?_) (fun cdv A outer s H vs Q E hr h => ?_)
  · obtain ⟨x, y, q, r, rfl, _⟩ := h
    rfl
  · obtain ⟨x, y, q, r, rfl, hx, hy, hq, hr', k⟩ := h
    refine ⟨_, pss_one (ps_ret (pe_op (op_num (op := .Add) c1 N hr pass0) (pv 0) (pe_un (un_cal c3 (hr.mono (by decide)) pass0) (pe_cal c2 (hr.mono (by decide)) (by rfl) pass0 (pa_cons (pv 1) pa_nil))))), ?_⟩
    refine ⟨_, rfl, _, rfl, _, r, rfl, hy, fun y' H1 e1 hy' => ⟨hy'.ins, _, _, rfl, hy', hr'.up (by decide), fun y2 H2 e2 hy2 => ?_⟩⟩
    exact ⟨((hx.mono e1).mono e2).ins, .inl hy2.ins, _, _, _, _, rfl, (hx.mono e1).mono e2, .inl hy2, hq, hr'.neg, fun v H' e z => k _ _ ((e1.trans e2).trans e) z⟩
theorem ok_rsub (F : Fun Z.K "__rsub__" "Share.__rsub__" s_Share_dd_rsub f fd) (T : ShT Z C) (c1 : CAdd Z C) (c2 : CNum Z C) (c3 : CNeg Z C) (N : NumF Z.K C "add") : Z.ok CX0 6 f fd ["self", "other"] (spBin C 4000 fun q r => gSub r q) := by
  refine F.ok sc_Share_dd_rsub (fun vs H Q E h => ?_) (fun cdv A outer s H vs Q E hr h => ?_)
  · obtain ⟨x, y, q, r, rfl, _⟩ := h
    rfl
  · obtain ⟨x, y, q, r, rfl, hx, hy, hq, hr', k⟩ := h
    refine ⟨_, pss_one (ps_ret (pe_op (op_num (op := .Add) c1 N hr pass0) (pe_cal c2 (hr.mono (by decide)) (by rfl) pass0 (pa_cons (pv 1) pa_nil)) (pe_un (un_cal c3 (hr.mono (by decide)) pass0) (pv 0)))), ?_⟩
    refine ⟨_, rfl, _, r, rfl, hy, fun y' H1 e1 hy' => ⟨_, rfl, (hx.mono e1).ins, _, _, rfl, hx.mono e1, hq.up (by decide), fun x2 H2 e2 hx2 => ?_⟩⟩
    exact ⟨(hy'.mono e2).ins, .inl hx2.ins, _, _, _, _, rfl, hy'.mono e2, .inl hx2, hr', hq.neg, fun v H' e z => k _ _ ((e1.trans e2).trans e) z⟩
/-- by: the other is not 0 -/
def spBy (C : Addr) : Sp := fun vs H Q _ => ∃ x y q r, vs = [x, y] ∧ Sh C H x q ∧ Nb C H y r ∧ Sz 4000 q ∧ Sz 4000 r ∧ r.1 ≠ 0 ∧ ∀ v H', Same H H' → Sh C H' v (gBy q r) → Q v H'
theorem ok_by (F : Fun Z.K "by" "Share.by" s_Share_by f fd) (T : ShT Z C) (c1 : CNum Z C) (c2 : CShare Z C) : Z.ok CX0 5 f fd ["self", "other"] (spBy C) := by
  refine F.ok sc_Share_by (fun vs H Q E h => ?_) (fun cdv A outer s H vs Q E hr h => ?_)
  · obtain ⟨x, y, q, r, rfl, _⟩ := h
    rfl
  · obtain ⟨x, y, q, r, rfl, hx, hy, hq, hr', hn, k⟩ := h
    refine ⟨_, pss_cons (ps_set (i := 1) sc_Share_by.nd rfl (Or.inl rfl) (pe_cal c1 hr (by rfl) pass0 (pa_cons (pv 1) pa_nil)))
      (pss_cons (ps_if (pt_cmpR op_eq (pe_fld (pv 1) rfl) pe_int (nomark _)) (pss_one ps_never) pss_nil)
      (pss_one (ps_ret (pe_calC c2 (hr.mono (by decide)) (by rfl) pass0 (pa_cons (pe_op op_mulW (pe_fld (pv 0) rfl) (pe_fld (pv 1) rfl)) (pa_cons (pe_op op_mulW (pe_fld (pv 0) rfl) (pe_fld (pv 1) rfl)) pa_nil)))))), ?_⟩
    refine ⟨_, rfl, _, r, rfl, hy, fun y' H1 e1 hy' => ?_⟩
    obtain ⟨a, dx, rfl, ha⟩ := hx.mono e1
    obtain ⟨b, dy, rfl, hb⟩ := id hy'
    refine ⟨_, rfl, b, C, dy, _, _, rfl, hb, T.cl, T.nT, shF_top _ _, rfl, _, rfl, ?_⟩
    rw [decide_eq_false (show ¬ V.int r.1 = V.int 0 from fun z => hn (V.int.inj z))]
    refine iteF ?_
    refine ⟨_, rfl, a, C, dx, _, _, rfl, ha, T.cl, T.nT, shF_top _ _, _, rfl, b, C, dy, _, _, rfl, hb, T.cl, T.nU, shF_under _ _, _, _, rfl, rfl, lt_mul hq.t hr'.u, ?_⟩
    refine ⟨_, rfl, a, C, dx, _, _, rfl, ha, T.cl, T.nU, shF_under _ _, _, rfl, b, C, dy, _, _, rfl, hb, T.cl, T.nT, shF_top _ _, _, _, rfl, rfl, lt_mul hq.u hr'.t, ?_⟩
    exact mk_sh (Int.mul_ne_zero hq.ne hn) (mul_lt hq.u hr'.t) fun v H' e z => k _ _ (e1.trans e) z
/-- a field, or what is reckoned of a share -/
def spGet (C : Addr) (n : Nat) (g : Int × Int → V) : Sp := fun vs H Q _ => ∃ x q, vs = [x] ∧ Sh C H x q ∧ Sz n q ∧ Q (g q) H
theorem ok_top (F : Fun Z.K "top" "Share.top" s_Share_top f fd) (T : ShT Z C) : Z.ok CX0 1 f fd ["self"] (spGet C 9000 fun q => .int q.1) := by
  refine F.ok sc_Share_top (fun vs H Q E h => ?_) (fun cdv A outer s H vs Q E hr h => ?_)
  · obtain ⟨x, q, rfl, _⟩ := h
    rfl
  · obtain ⟨x, q, rfl, ⟨a, dx, rfl, ha⟩, hq, k⟩ := h
    exact ⟨_, pss_one (ps_ret (pe_fld (pv 0) rfl)), _, rfl, a, C, dx, _, _, rfl, ha, T.cl, T.nT, shF_top _ _, k⟩
theorem ok_under (F : Fun Z.K "under" "Share.under" s_Share_under f fd) (T : ShT Z C) : Z.ok CX0 1 f fd ["self"] (spGet C 9000 fun q => .int q.2) := by
  refine F.ok sc_Share_under (fun vs H Q E h => ?_) (fun cdv A outer s H vs Q E hr h => ?_)
  · obtain ⟨x, q, rfl, _⟩ := h
    rfl
  · obtain ⟨x, q, rfl, ⟨a, dx, rfl, ha⟩, hq, k⟩ := h
    exact ⟨_, pss_one (ps_ret (pe_fld (pv 0) rfl)), _, rfl, a, C, dx, _, _, rfl, ha, T.cl, T.nU, shF_under _ _, k⟩
theorem ok_floor (F : Fun Z.K "floor" "Share.floor" s_Share_floor f fd) (T : ShT Z C) : Z.ok CX0 1 f fd ["self"] (spGet C 9000 fun q => .int (q.1.fdiv q.2)) := by
  refine F.ok sc_Share_floor (fun vs H Q E h => ?_) (fun cdv A outer s H vs Q E hr h => ?_)
  · obtain ⟨x, q, rfl, _⟩ := h
    rfl
  · obtain ⟨x, q, rfl, ⟨a, dx, rfl, ha⟩, hq, k⟩ := h
    exact ⟨_, pss_one (ps_ret (pe_op op_fdivG (pe_fld (pv 0) rfl) (pe_fld (pv 0) rfl))), _, rfl, a, C, dx, _, _, rfl, ha, T.cl, T.nT, shF_top _ _, _, rfl, a, C, dx, _, _, rfl, ha, T.cl, T.nU, shF_under _ _, _, _, rfl, rfl, divG hq.ne hq.u (by decide) (by decide), k⟩
end
end Ps

/-! The law's own draws: numbers within bounds. -/
namespace Ps
open PySem PySem.Spec PyProof.Rows PySem.W L2

/-- built-in names that the law uses -/
structure DrT (Z : Cz) : Prop where
  int : Z.mg "int" = none
  len : Z.mg "len" = none
  range : Z.mg "range" = none
  max : Z.mg "max" = none
  min : Z.mg "min" = none
def Below (ms ns : List Int) : Prop := ms.length = ns.length ∧ ∀ (i : Nat) (m n : Int), ms[i]? = some m → ns[i]? = some n → 0 ≤ m ∧ m < n
theorem Below.nil : Below [] [] := ⟨rfl, fun i m n h _ => by simp at h⟩
theorem Below.snoc {ms ns : List Int} {m n : Int} (h : Below ms ns) (h0 : 0 ≤ m) (h1 : m < n) : Below (ms ++ [m]) (ns ++ [n]) := by
  refine ⟨by rw [List.length_append, List.length_append, h.1]; rfl, fun i a b ha hb => ?_⟩
  by_cases hi : i < ms.length
  · rw [List.getElem?_append_left hi] at ha
    rw [List.getElem?_append_left (by rw [← h.1]; exact hi)] at hb
    exact h.2 i a b ha hb
  · rw [List.getElem?_append_right (by omega)] at ha
    rw [List.getElem?_append_right (by rw [← h.1]; omega)] at hb
    rw [← h.1] at hb
    cases e : i - ms.length with
    | zero =>
      rw [e] at ha hb
      simp at ha hb
      subst ha; subst hb
      exact ⟨h0, h1⟩
    | succ j =>
      rw [e] at ha
      simp at ha
theorem take_snoc {ns : List Int} {i : Nat} {n : Int} (h : ns[i]? = some n) : ns.take (i + 1) = ns.take i ++ [n] := by
  rw [List.take_succ, h]
  rfl
/-- sizes that may be drawn by -/
structure Sizes (ns : List Int) : Prop where
  len : ns.length ≤ 10000
  pos : ∀ n ∈ ns, 0 < n ∧ n < 1073741824
def spNumbers (K : Frag) : Sp := fun vs H Q _ => ∃ (c s : Int) (a : Addr) (ns : List Int), vs = [.int c, .int s, .ref a] ∧ SqL K H a (ns.map V.int) ∧ Sizes ns ∧ 0 ≤ s ∧ s ≤ 1000 ∧
  ∀ p H' ms, Same H H' → H p = none → H' p = some (.lst (ms.map V.int)) → Below ms ns → Q (.ref p) H'
theorem small1000' {n : Nat} (h : n ≤ 100000) : n < sizeLine := Nat.lt_of_le_of_lt h (by decide)
theorem pow_ok {i j : Int} (h0 : 0 ≤ j) (h1 : j ≤ 1000000) (h2 : i.natAbs < 2 ^ 64) : L2.CPow i j := ⟨h0, h1, h2⟩
section
variable {Z : Cz} {f : Addr} {fd : FuncData}
theorem ok_numbers (F : Fun Z.K "_law_numbers" "_law_numbers" s_lw_numbers f fd) (T : DrT Z) : Z.ok CX0 1 f fd ["_law_cell", "_law_salt", "_law_sizes"] (spNumbers Z.K) := by
  refine F.ok sc_lw_numbers (fun vs H Q E h => ?_) (fun cdv A outer s H vs Q E hr h => ?_)
  · obtain ⟨c, s, a, ns, rfl, _⟩ := h
    rfl
  · obtain ⟨c, sa, a, ns, rfl, hS, hz, hs0, hs1, k⟩ := h
    have nd := sc_lw_numbers.nd
    refine ⟨_, (pss_cons (ps_set (i := 3) sc_lw_numbers.nd rfl (Or.inl rfl) (pe_callB (call_max2 rfl) (by rfl) T.max (by decide +kernel) (pa_cons (pe_int1 (by rfl) T.int (pv 0)) (pa_cons (pe_int1 (by rfl) T.int (pe_op op_sub (pe_un un_neg pe_int) (pv 0))) pa_nil))))
      (pss_cons (ps_set (i := 4) sc_lw_numbers.nd rfl (Or.inl rfl) (pv 3))
      (pss_cons (ps_set (i := 5) sc_lw_numbers.nd rfl (Or.inl rfl) (pe_lst pa_nil))
      (pss_cons (ps_for PassesOwn.never rfl (pi_range1 (by rfl) T.range (pa_cons (pe_callB call_len_seq (by rfl) T.len PySem.boot_len (pa_cons (pv 2) pa_nil)) pa_nil)) (pg_name (i := 6) sc_lw_numbers.nd rfl (Or.inl rfl))
      (pss_one (ps_if (PW.pt (pw_and (pt_cmpR op_ge (pv 3) (pe_op op_pow pe_int pe_int) (nomark _)) (pw_and1 (pt_cmpR op_gt (pv 4) pe_int (nomark _)))))
        (pss_cons (ps_expr (pe_bm PySem.F.plainAttrs_list PySem.F.slot_list_append PySem.F.type_list_append mt_append (pv 5) (pa_cons (pe_op op_mod (pe_int1 (by rfl) T.int (pv 4)) (pe_ix ix_list (pv 2) (pv 6) (fun _ _ => rfl))) pa_nil)))
          (pss_one (ps_set (i := 4) sc_lw_numbers.nd rfl (Or.inl rfl) (pe_op op_fdiv (pv 4) (pe_ix ix_list (pv 2) (pv 6) (fun _ _ => rfl))))))
        (pss_cons (ps_set (i := 7) sc_lw_numbers.nd rfl (Or.inl rfl) (pe_op op_pow (pe_op op_add (pe_op op_add (pe_op op_mod (pe_int1 (by rfl) T.int (pv 3)) pe_int) (pe_op op_mul pe_int (pv 1))) pe_int) pe_int))
          (pss_cons (ps_set (i := 7) sc_lw_numbers.nd rfl (Or.inl rfl) (pe_op op_mul (pe_op op_add (pe_op op_mod (pe_int1 (by rfl) T.int (pv 7)) pe_int) (pe_op op_mul pe_int (pe_op op_add (pv 6) pe_int))) (pe_op op_add (pv 6) pe_int)))
          (pss_cons (ps_set (i := 7) sc_lw_numbers.nd rfl (Or.inl rfl) (pe_op op_mod (pe_int1 (by rfl) T.int (pv 7)) pe_int))
          (pss_cons (ps_set (i := 7) sc_lw_numbers.nd rfl (Or.inl rfl) (pe_op op_mul (pe_op op_mod (pe_int1 (by rfl) T.int (pe_op op_pow (pv 7) pe_int)) pe_int) pe_int))
          (pss_cons (ps_set (i := 7) sc_lw_numbers.nd rfl (Or.inl rfl) (pe_op op_mod (pe_int1 (by rfl) T.int (pv 7)) pe_int))
          (pss_one (ps_expr (pe_bm PySem.F.plainAttrs_list PySem.F.slot_list_append PySem.F.type_list_append mt_append (pv 5) (pa_cons (pe_op op_mod (pe_int1 (by rfl) T.int (pe_op op_fdiv (pv 7) pe_int)) (pe_ix ix_list (pv 2) (pv 6) (fun _ _ => rfl))) pa_nil))))))))))))
      (pss_one (ps_ret (pv 5))))))), ?_⟩
    refine ⟨_, rfl, _, rfl, _, rfl, _, rfl, _, _, rfl, rfl, _, rfl, _, _, rfl, ?_⟩
    generalize (if (-1 - c : Int) > c then (-1 - c : Int) else c) = wh
    refine ⟨_, rfl, ?_⟩
    refine ⟨by decide, fun p hp => ?_⟩
    have e0 : Same H (upd H p (.lst [])) := fun b o e => by rw [upd_ne (ne_of_none e hp)]; exact e
    have hln : (ns.map V.int).length = ns.length := List.length_map ..
    have hl := hz.len
    refine ⟨_, rfl, a, _, rfl, .inl (e0.seq hS), _, rfl, by omega, by omega, for_range (lo := 0) (fun i σ H1 => ∃ (l : Int) (ms : List Int) (o k : Option V), σ = [some (.int c), some (.int sa), some (.ref a), some (.int wh), some (.int l), some (.ref p), k, o] ∧ Same H H1 ∧ H1 p = some (.lst (ms.map V.int)) ∧ Below ms (ns.take i))
      ⟨wh, [], none, none, rfl, e0, upd_same, Below.nil⟩ ?_ ?_⟩
    · rintro i σ H1 hi ⟨l, ms, o, k', rfl, e1, h1, hb⟩
      have hi' : i < ns.length := by omega
      obtain ⟨n, hn⟩ : ∃ n, ns[i]? = some n := ⟨ns[i], List.getElem?_eq_getElem hi'⟩
      have hnp := hz.pos n (List.mem_of_getElem? hn)
      have hat : atI (ns.map V.int) (0 + (i : Int)) = some (.int n) := by
        rw [Int.zero_add]
        exact atI_nat (by rw [List.getElem?_map, hn]; rfl)
      have hml : ms.length ≤ 10000 := by
        rw [hb.1, List.length_take]; omega
      have fin : ∀ (m l' : Int) (o' k2 : Option V), 0 ≤ m → m < n → ∃ (l : Int) (ms' : List Int) (o k : Option V), [some (V.int c), some (.int sa), some (.ref a), some (.int wh), some (.int l'), some (.ref p), k2, o'] = [some (.int c), some (.int sa), some (.ref a), some (.int wh), some (.int l), some (.ref p), k, o] ∧
          Same H (upd H1 p (.lst (ms.map V.int ++ [.int m]))) ∧ (upd H1 p (.lst (ms.map V.int ++ [.int m]))) p = some (.lst (ms'.map V.int)) ∧ Below ms' (ns.take (i + 1)) := by
        intro m l' o' k2 h0 h2
        refine ⟨l', ms ++ [m], o', k2, rfl, fun b o e => ?_, ?_, ?_⟩
        · rw [upd_ne (ne_of_none e hp)]
          exact e1 b o e
        · rw [upd_same, List.map_append]
          rfl
        · rw [take_snoc hn]
          exact hb.snoc h0 h2
      have hml' : (ms.map V.int).length < sizeLine := by rw [List.length_map]; exact small1000' (by omega)
      have hS1 := e1.seq hS
      have hm2 : ∀ z : Int, 0 ≤ z % n ∧ z % n < n := fun z => ⟨Int.emod_nonneg _ (by omega), Int.emod_lt_of_pos _ hnp.1⟩
      refine ⟨_, rfl, _, _, rfl, rfl, pow_ok (by decide) (by decide) (by decide), _, _, rfl, rfl, _, rfl, iteD (fun _ => ?_) (fun _ => ?_)⟩
      · refine ⟨_, rfl, _, _, rfl, rfl, _, rfl, iteD (fun _ => ?_) (fun _ => ?_)⟩
        · refine ⟨_, rfl, .inl ⟨rfl, _, SqL.of h1⟩, _, rfl, _, rfl, _, rfl, _, rfl, a, _, _, _, rfl, rfl, hS1, hat, _, _, rfl, rfl, hnp.1, p, _, _, rfl, rfl, h1, hml', ?_⟩
          have hS2 : SqL Z.K (upd H1 p (.lst (ms.map V.int ++ [.int (l % n)]))) a (ns.map V.int) := by
            obtain ⟨_, _, _, _, _, e2, _, _⟩ := fin (l % n) l o none (hm2 l).1 (hm2 l).2
            exact e2.seq hS
          refine ⟨_, rfl, _, rfl, _, rfl, a, _, _, _, rfl, rfl, hS2, hat, _, _, rfl, rfl, ⟨hnp.1, hnp.2⟩, ?_⟩
          exact fin _ _ _ _ (hm2 l).1 (hm2 l).2
        · refine ⟨_, rfl, _, rfl, _, _, rfl, rfl, (by show (0 : Int) < 2147483629; decide), _, rfl, _, _, rfl, rfl, .inl ⟨by decide, by decide⟩, _, _, rfl, rfl, _, _, rfl, rfl, _, _, rfl, rfl, pow_ok (by decide) (by decide) (by omega), ?_⟩
          refine ⟨_, rfl, _, rfl, _, _, rfl, rfl, (by show (0 : Int) < 2147483647; decide), _, rfl, _, _, rfl, rfl, _, _, rfl, rfl, .inl ⟨by decide, by decide⟩, _, _, rfl, rfl, _, rfl, _, _, rfl, rfl, _, _, rfl, rfl, .inr ⟨by omega, by omega⟩, ?_⟩
          refine ⟨_, rfl, _, rfl, _, _, rfl, rfl, (by show (0 : Int) < 2147483629; decide), ?_⟩
          refine ⟨_, rfl, _, _, rfl, rfl, pow_ok (by decide) (by decide) (by omega), _, rfl, _, _, rfl, rfl, (by show (0 : Int) < 2147483647; decide), _, _, rfl, rfl, .inr ⟨by decide, by decide⟩, ?_⟩
          refine ⟨_, rfl, _, rfl, _, _, rfl, rfl, (by show (0 : Int) < 2147483629; decide), ?_⟩
          refine ⟨_, rfl, .inl ⟨rfl, _, SqL.of h1⟩, _, rfl, _, _, rfl, rfl, ⟨by decide, by decide⟩, _, rfl, _, rfl, _, rfl, a, _, _, _, rfl, rfl, hS1, hat, _, _, rfl, rfl, hnp.1, p, _, _, rfl, rfl, h1, hml', ?_⟩
          exact fin _ _ _ _ (hm2 _).1 (hm2 _).2
      · refine ⟨_, rfl, _, rfl, _, _, rfl, rfl, (by show (0 : Int) < 2147483629; decide), _, rfl, _, _, rfl, rfl, .inl ⟨by decide, by decide⟩, _, _, rfl, rfl, _, _, rfl, rfl, _, _, rfl, rfl, pow_ok (by decide) (by decide) (by omega), ?_⟩
        refine ⟨_, rfl, _, rfl, _, _, rfl, rfl, (by show (0 : Int) < 2147483647; decide), _, rfl, _, _, rfl, rfl, _, _, rfl, rfl, .inl ⟨by decide, by decide⟩, _, _, rfl, rfl, _, rfl, _, _, rfl, rfl, _, _, rfl, rfl, .inr ⟨by omega, by omega⟩, ?_⟩
        refine ⟨_, rfl, _, rfl, _, _, rfl, rfl, (by show (0 : Int) < 2147483629; decide), ?_⟩
        refine ⟨_, rfl, _, _, rfl, rfl, pow_ok (by decide) (by decide) (by omega), _, rfl, _, _, rfl, rfl, (by show (0 : Int) < 2147483647; decide), _, _, rfl, rfl, .inr ⟨by decide, by decide⟩, ?_⟩
        refine ⟨_, rfl, _, rfl, _, _, rfl, rfl, (by show (0 : Int) < 2147483629; decide), ?_⟩
        refine ⟨_, rfl, .inl ⟨rfl, _, SqL.of h1⟩, _, rfl, _, _, rfl, rfl, ⟨by decide, by decide⟩, _, rfl, _, rfl, _, rfl, a, _, _, _, rfl, rfl, hS1, hat, _, _, rfl, rfl, hnp.1, p, _, _, rfl, rfl, h1, hml', ?_⟩
        exact fin _ _ _ _ (hm2 _).1 (hm2 _).2
    · rintro σ H1 ⟨l, ms, o, k', rfl, e1, h1, hb⟩
      refine ⟨_, rfl, k p H1 ms e1 hp h1 ?_⟩
      rw [hln, Int.toNat_natCast, List.take_length] at hb
      exact hb
/-- a pool at p: its numbers at q, the place of the next one -/
structure Pool (H : Hp) (p q : Addr) (ms : List Int) (i : Nat) : Prop where
  at_ : H p = some (.lst [.ref q, .int i])
  nums : H q = some (.lst (ms.map V.int))
  len : ms.length ≤ 10000
  few : i ≤ 100000
theorem Pool.ne {H : Hp} {p q : Addr} {ms : List Int} {i : Nat} (h : Pool H p q ms i) : p ≠ q := ne_of h.at_ h.nums (by
  intro z
  have z := HO.lst.inj z
  cases ms with
  | nil => cases z
  | cons m r =>
    rw [List.map_cons] at z
    cases (List.cons.inj z).1)
theorem rep420 (k : Nat) : (List.replicate k [V.int 420]).flatten = (List.replicate k (420 : Int)).map V.int := by
  induction k with
  | zero => rfl
  | succ k ih => rw [List.replicate_succ, List.flatten_cons, ih, List.replicate_succ]; rfl
def spPool : Sp := fun vs H Q _ => ∃ (c s n : Int), vs = [.int c, .int s, .int n] ∧ 0 ≤ s ∧ s ≤ 1000 ∧ 0 ≤ n ∧ n ≤ 10000 ∧
  ∀ p q H' ms, Same H H' → H p = none → H q = none → Pool H' p q ms 0 → Q (.ref p) H'
theorem ok_pool (F : Fun Z.K "_law_pool" "_law_pool" s_lw_pool f fd) (T : DrT Z) (c_lw_numbers : Cal Z CX0 1 "_law_numbers" ["_law_cell", "_law_salt", "_law_sizes"] [] (spNumbers Z.K)) : Z.ok CX0 2 f fd ["_law_cell", "_law_salt", "_law_many"] spPool := by
  refine F.ok sc_lw_pool (fun vs H Q E h => ?_) (fun cdv A outer s H vs Q E hr h => ?_)
  · obtain ⟨c, s, n, rfl, _⟩ := h
    rfl
  · obtain ⟨c, sa, n, rfl, hs0, hs1, hn0, hn1, k⟩ := h
    refine ⟨_, (pss_one (ps_ret (pe_lst (pa_cons (pe_cal c_lw_numbers (hr.mono (by decide)) (by rfl) pass0 (pa_cons (pv 0) (pa_cons (pv 1) (pa_cons (pe_op op_rep (pe_lst (pa_cons pe_int pa_nil)) (pv 2)) pa_nil)))) (pa_cons pe_int pa_nil))))), ?_⟩
    refine ⟨_, rfl, _, rfl, by decide, fun l hl => ?_⟩
    refine ⟨_, rfl, l, n, _, rfl, rfl, upd_same, by omega, by omega, ?_, fun l2 hl2 => ?_⟩
    · show 1 * n.toNat ≤ sizeLine
      rw [Nat.one_mul]
      exact Nat.le_of_lt (small1000' (by omega))
    have e1 : Same H (upd (upd H l (.lst [.int 420])) l2 (.lst (List.replicate n.toNat [V.int 420]).flatten)) := fun b o e => by
      have := e
      rw [upd_ne, upd_ne (ne_of_none e hl)]
      · exact e
      · intro z
        subst z
        rw [upd_ne (ne_of_none e hl), e] at hl2
        cases hl2
    refine ⟨c, sa, l2, List.replicate n.toNat 420, rfl, SqL.of (by rw [upd_same, rep420]), ⟨?_, ?_⟩, hs0, hs1, fun q H2 ms e2 hq h2 hb => ?_⟩
    · rw [List.length_replicate]; omega
    · intro x hx
      rw [(List.mem_replicate.mp hx).2]
      decide
    have e3 := e1.trans e2
    refine ⟨Nat.le_of_lt (small1000' (show 2 ≤ 100000 by decide)), fun p hp => ?_⟩
    have hqn : H q = none := e1.free hq
    have hne : q ≠ p := ne_of_none h2 hp
    refine k p q _ ms (fun b o e => ?_) (e3.free hp) hqn ⟨upd_same, by rw [upd_ne hne]; exact h2, ?_, by decide⟩
    · rw [upd_ne (ne_of_none (e3 b o e) hp)]
      exact e3 b o e
    · rw [hb.1, List.length_replicate]; omega
/-- a draw -/
def spDraw : Sp := fun vs H Q _ => ∃ (p q : Addr) (ms : List Int) (i : Nat) (n : Int), vs = [.ref p, .int n] ∧ Pool H p q ms i ∧ 0 < n ∧ i < 100000 ∧
  ∀ r H', 0 ≤ r → r < n → (∀ b, b ≠ p → H' b = H b) → Pool H' p q ms (i + 1) → Q (.int r) H'
theorem ok_draw (F : Fun Z.K "_law_draw" "_law_draw" s_lw_draw f fd) (T : DrT Z) : Z.ok CX0 1 f fd ["_law_pool_here", "_law_many"] spDraw := by
  refine F.ok sc_lw_draw (fun vs H Q E h => ?_) (fun cdv A outer s H vs Q E hr h => ?_)
  · obtain ⟨p, q, ms, i, n, rfl, _⟩ := h
    rfl
  · obtain ⟨p, q, ms, i, n, rfl, hP, hn, hi, k⟩ := h
    refine ⟨_, (pss_cons (ps_set (i := 2) sc_lw_draw.nd rfl (Or.inl rfl) (pe_ix ix_list (pv 0) pe_int (fun _ _ => rfl)))
      (pss_cons (ps_asg (pe_op op_add (pv 2) pe_int) (pg_sub (pv 0) pe_int set_list))
      (pss_one (ps_ret (pe_ifExp (pt_cmpR op_lt (pv 2) (pe_callB call_len_seq (by rfl) T.len PySem.boot_len (pa_cons (pe_ix ix_list (pv 0) pe_int (fun _ _ => rfl)) pa_nil)) (nomark _)) (pe_op op_mod (pe_int1 (by rfl) T.int (pe_ix ix_list (pe_ix ix_list (pv 0) pe_int (fun _ _ => rfl)) (pv 2) (fun _ _ => rfl))) (pv 1)) pe_int))))), ?_⟩
    refine ⟨_, rfl, p, _, _, _, rfl, rfl, SqL.of hP.at_, rfl, ?_⟩
    refine ⟨_, rfl, _, _, rfl, rfl, _, rfl, p, _, _, 1, rfl, rfl, hP.at_, rfl, ?_⟩
    have hP2 : Pool (upd H p (.lst [.ref q, .int ((i : Int) + 1)])) p q ms (i + 1) := ⟨by rw [upd_same, show ((i + 1 : Nat) : Int) = (i : Int) + 1 by omega], by rw [upd_ne hP.ne.symm]; exact hP.nums, hP.len, hi⟩
    have hsame : ∀ b, b ≠ p → (upd H p (.lst [.ref q, .int ((i : Int) + 1)])) b = H b := fun b hb => upd_ne hb
    refine ⟨_, rfl, _, rfl, p, _, _, _, rfl, rfl, SqL.of upd_same, rfl, q, _, rfl, .inl (SqL.of hP2.nums), _, _, rfl, rfl, _, rfl, iteD (fun hlt => ?_) (fun hge => ?_)⟩
    · rw [List.length_map] at hlt
      have hlt' : i < ms.length := by omega
      refine ⟨_, rfl, p, _, _, _, rfl, rfl, SqL.of upd_same, rfl, _, rfl, q, _, _, V.int ms[i], rfl, rfl, SqL.of hP2.nums, ?_, _, rfl, _, rfl, _, _, rfl, rfl, hn, ?_⟩
      · exact atI_nat (by rw [List.getElem?_map, List.getElem?_eq_getElem hlt']; rfl)
      · exact k _ _ (Int.emod_nonneg _ (by omega)) (Int.emod_lt_of_pos _ hn) hsame hP2
    · exact k 0 _ (Int.le_refl 0) hn hsame hP2
/-- the pool of the script's k-th cell -/
def spOpened (K : Frag) : Sp := fun vs H Q _ => ∃ (a : Addr) (ns : List Int) (i : Nat) (n : Int), vs = [.ref a, .int i, .int n] ∧ SqL K H a (ns.map V.int) ∧ (i < ns.length ∨ (ns = [] ∧ i = 0)) ∧ i ≤ 1000 ∧ 0 ≤ n ∧ n ≤ 10000 ∧
  ∀ p q H' ms, Same H H' → H p = none → H q = none → Pool H' p q ms 0 → Q (.ref p) H'
theorem DpAll.ints {K : Frag} {H : Hp} : ∀ ns : List Int, DpAll K H (ns.map V.int) (ns.map PyData.int)
  | [] => .nil
  | n :: r => .cons (.int n) (DpAll.ints r)
theorem shaped_ints (ns : List Int) : SeqAt.shaped (.list (ns.map PyData.int)) = true := ke_shaped_ints ns
theorem ok_opened (F : Fun Z.K "_law_opened" "_law_opened" s_lw_opened f fd) (T : DrT Z) (c_lw_pool : Cal Z CX0 2 "_law_pool" ["_law_cell", "_law_salt", "_law_many"] [] spPool) : Z.ok CX0 3 f fd ["_law_script", "_law_k", "_law_many"] (spOpened Z.K) := by
  refine F.ok sc_lw_opened (fun vs H Q E h => ?_) (fun cdv A outer s H vs Q E hr h => ?_)
  · obtain ⟨a, ns, i, n, rfl, _⟩ := h
    rfl
  · obtain ⟨a, ns, i, n, rfl, hS, hi, hi2, hn0, hn1, k⟩ := h
    refine ⟨_, (pss_cons (ps_set (i := 3) sc_lw_opened.nd rfl (Or.inl rfl) (pe_ifExp (pt_cmpR (op_neD hr.units) (pv 0) (pe_lst pa_nil) (nomark _)) (pe_ix ix_list (pv 0) (pv 1) (fun _ _ => rfl)) pe_int))
      (pss_one (ps_ret (pe_cal c_lw_pool (hr.mono (by decide)) (by rfl) pass0 (pa_cons (pv 3) (pa_cons (pv 1) (pa_cons (pv 2) pa_nil))))))), ?_⟩
    refine ⟨_, rfl, by decide, fun l hl => ?_⟩
    have e1 : Same H (upd H l (.lst [])) := fun b o e => by rw [upd_ne (ne_of_none e hl)]; exact e
    refine ⟨_, _, .lst (e1.seq hS) (DpAll.ints ns), .lst (SqL.of upd_same) .nil, shaped_ints ns, rfl, _, rfl, ?_⟩
    have fin : ∀ c : Int, spPool [.int c, .int i, .int n] (upd H l (.lst [])) Q E0 := fun c =>
      ⟨c, i, n, rfl, by omega, by omega, hn0, hn1, fun p q H' ms e hp hq P => k p q H' ms (e1.trans e) (e1.free hp) (e1.free hq) P⟩
    cases ns with
    | nil =>
      refine iteF ?_
      exact ⟨_, rfl, _, rfl, _, rfl, fin 7⟩
    | cons x r =>
      refine iteT ?_
      have hlt : i < (x :: r).length := by
        rcases hi with h | h
        · exact h
        · cases h.1
      refine ⟨_, rfl, _, rfl, a, _, _, V.int (x :: r)[i], rfl, rfl, e1.seq hS, atI_nat (by rw [List.getElem?_map, List.getElem?_eq_getElem hlt]; rfl), _, rfl, _, rfl, _, rfl, fin _⟩
end
end Ps

/-! Shares behind the top: facts by a Bool. -/
namespace Ps
open PySem PySem.Spec PyProof.Rows PySem.W L2 He

theorem neB_ok {K : Frag} {C : Addr} (c : neB K C = true) : NeT K C := by
  obtain ⟨c1, c2⟩ := ba c
  exact ⟨eqO_ok c1, of_decide_eq_true c2⟩
theorem rflB_ok {K : Frag} {C : Addr} {nm : String} (c : rflB K C nm = true) : Rfl K C nm := ⟨⟨_, eqO_ok c, .inr ⟨_, rfl⟩⟩⟩
theorem noiB_ok {K : Frag} {C : Addr} {nm : String} (c : noiB K C nm = true) : NoI K C nm := by
  obtain ⟨c1, c⟩ := ba c
  obtain ⟨c2, c3⟩ := ba c
  obtain ⟨cd, hc, hm⟩ := any_some c1
  exact ⟨⟨cd, hc, of_decide_eq_true hm⟩, eqO_ok c2, of_decide_eq_true c3⟩
section
variable {K : Frag} {h : Heap} {mg : Str → Option Value}
theorem shB_ok {P : Program} {w : World} {base : Heap} (X : K.In h) (G : h.Ns mainGlobals mg) (c : shB K = true) : ShT ⟨P, w, K, mg, base⟩ (ga K "Share") ∧ DrT ⟨P, w, K, mg, base⟩ ∧ Mk K (ga K "Share") (ma K (ga K "Share") "__init__") := by
  obtain ⟨c1, c⟩ := ba c
  obtain ⟨c2, c⟩ := ba c
  obtain ⟨c3, c⟩ := ba c
  obtain ⟨c4, c⟩ := ba c
  obtain ⟨c5, c⟩ := ba c
  obtain ⟨c6, c⟩ := ba c
  obtain ⟨c7, c⟩ := ba c
  obtain ⟨c8, c⟩ := ba c
  obtain ⟨c9, c⟩ := ba c
  obtain ⟨c10, c11⟩ := ba c
  obtain ⟨d1, d⟩ := ba c7
  obtain ⟨d2, d⟩ := ba d
  obtain ⟨d3, d4⟩ := ba d
  have f := fun {x : Str} (hx : x ∈ (["isinstance", "int", "bool", "abs", "len", "range", "max", "min"] : List Str)) => freeB_ok X G c6 hx
  exact ⟨⟨cls_ok c1, noat_ok c3, noat_ok c4, glo_ok X G c5, f (by simp), f (by simp), f (by simp), f (by simp), eqO_ok d1, eqO_ok d2, of_decide_eq_true d3, of_decide_eq_true d4, of_decide_eq_true c8, of_decide_eq_true c9, of_decide_eq_true c10, fun t ht => of_decide_eq_true (List.all_eq_true.mp c11 t ht)⟩,
    ⟨f (by simp), f (by simp), f (by simp), f (by simp), f (by simp)⟩, mkr_ok c2⟩
end
section
variable {Z : Cz} {h : Heap} {fn : List DefP} {ex : Frag → Bool}
/-- Share(..) -/
theorem mk_cals (X : Z.K.In h) (G : h.Ns mainGlobals Z.mg) (T : ShT Z (ga Z.K "Share")) (M : Mk Z.K (ga Z.K "Share") (ma Z.K (ga Z.K "Share") "__init__"))
    (g1 : ∃ f fd, Got Z.K Z.mg "is_integer" s_is_integer f fd) (g2 : ∃ f fd, Got Z.K Z.mg "common" s_common f fd)
    (g3 : ∃ fd, FunD Z.K "__init__" "Share.__init__" (defArgs s_Share_dd_init) (defBody s_Share_dd_init) (defScope s_Share_dd_init) [.int 1] [] (ma Z.K (ga Z.K "Share") "__init__") fd) :
    Cal Z CX0 1 "is_integer" ["value"] [] (spIsInt Z.K) ∧ CShare Z (ga Z.K "Share") ∧ CShare1 Z (ga Z.K "Share") := by
  obtain ⟨f1, fd1, g1⟩ := g1
  obtain ⟨f2, fd2, g2⟩ := g2
  obtain ⟨fd3, F3⟩ := g3
  have c1 := g1.cal (ok_is_integer g1.F T) (g1.F.binds fun _ _ _ _ _ _ us hl => match us, hl with | [_], _ => rfl)
  have c2 := g2.cal (ok_common g2.F T) (g2.F.binds fun _ _ _ _ _ _ us hl => match us, hl with | [_, _], _ => rfl)
  have k3 := ok_ShInit F3 T c1 c2
  obtain ⟨d1, v1, b1⟩ := FunD.binds1 (ps := ["self", "top", "under"]) F3 3 1 (by simp) rfl (fun T kV doc pm an cdv ct us its hl hi => match us, hl, its, hi with | [_, _, _], _, [_], _ => ⟨_, rfl, rfl⟩)
  obtain ⟨d2, v2, b2⟩ := FunD.binds1 (ps := ["self", "top", "under"]) F3 2 0 (by simp) rfl (fun T kV doc pm an cdv ct us its hl hi => match us, hl, its, hi with | [_, _], _, [_], _ => ⟨_, rfl, rfl⟩)
  exact ⟨c1, ⟨_, _, _, k3, M, T.mgC, b1, v1⟩, ⟨_, _, _, k3, M, T.mgC, b2, v2⟩⟩
end
end Ps

/-! Own errors behind the top. -/
namespace Ps
open PySem PySem.Spec PyProof.Rows PySem.W L2 He

theorem excObjB_ok {K : Frag} {C P : Addr} (h : excObjB K C P = true) : ∃ nm q N bs sn sub ab col dd k0 k1 k2 k3 k5, K.lookup C = some (excClassObj nm q C N bs (.ref P :: ESX.exTail) true sn sub ab col dd k0 k1 k2 k3 k5 "Exception.__new__") := by
  unfold excObjB at h
  split at h
  · rename_i dd cd sl ho
    split at h
    · rename_i k0 k1 k2 k3 n k5 hs
      obtain ⟨h1, h⟩ := ba h
      obtain ⟨h2, h⟩ := ba h
      obtain ⟨h3, h4⟩ := ba h
      have h1 := of_decide_eq_true h1
      have h2 := of_decide_eq_true h2
      obtain ⟨nm, bs, mro, ns, qn, hd, sn, sub, ab, col, del⟩ := cd
      dsimp only at h1 h3 h4
      have h3 : del = false := by simpa using h3
      subst h1 h2 h3 h4
      have hsl : sl = #[k0, k1, k2, k3, some (.builtin "Exception.__new__"), k5] := by
        obtain ⟨l⟩ := sl
        simp only at hs
        rw [hs]
      subst hsl
      exact ⟨nm, qn, ns, bs, sn, sub, ab, col, dd, k0, k1, k2, k3, k5, ho⟩
    · cases h
  · cases h
theorem excB_ok {K : Frag} {h : Heap} {mg : Str → Option Value} {x fl qual : Str} {st : Stmt} {f : Addr} {fd : FuncData} {p1 p2 q1 q2 q3 q4 : Pos} (X : K.In h) (G : h.Ns mainGlobals mg) (c : excB K x fl = true) (g : GotM K (ga K x) "__init__" qual st f fd)
    (hA : defArgs st = xA fl p1 p2) (hB : defBody st = xB fl q1 q2 q3 q4) (hS : defScope st = xS fl) : ExT K mg x fl qual (ga K x) (ga K "PlanError") f := by
  obtain ⟨c1, c⟩ := ba c
  obtain ⟨c2, c⟩ := ba c
  obtain ⟨c3, c⟩ := ba c
  obtain ⟨c4, c⟩ := ba c
  obtain ⟨c5, c⟩ := ba c
  obtain ⟨c6, c7⟩ := ba c
  obtain ⟨oc, od, kV, doc, pm, an, cdv, ct, osl, rfl, lk, hcd⟩ := g.F.ex
  rw [hA, hB, hS] at lk
  exact ⟨glo_ok X G c2, excObjB_ok c1, eqO_ok c3, eqO_ok c4, g.o.fn, beq_iff_eq.mp g.o.isf, c5, of_decide_eq_true c6, xfB_ok c7, ⟨oc, od, kV, doc, pm, an, cdv, ct, osl, p1, p2, q1, q2, q3, q4, lk, hcd⟩⟩
end Ps

/-! Constants behind the top: facts by a Bool. -/
namespace Ps
open PySem PySem.Spec PyProof.Rows PySem.W L2 He

theorem txtB_ok {K : Frag} {h : Heap} {mg : Str → Option Value} {x z : Str} (X : K.In h) (G : h.Ns mainGlobals mg) (c : txtB K x z = true) : ∃ t, mg x = some (.str z t) := by
  unfold txtB at c
  split at c
  · rename_i y t e
    obtain rfl := of_decide_eq_true c
    exact ⟨t, mg_of X G e⟩
  · cases c
theorem intB_ok {K : Frag} {h : Heap} {mg : Str → Option Value} {x : Str} {i : Int} (X : K.In h) (G : h.Ns mainGlobals mg) (c : intB K x i = true) : ∃ t, mg x = some (.int i t) := by
  unfold intB at c
  split at c
  · rename_i y t e
    obtain rfl := of_decide_eq_true c
    exact ⟨t, mg_of X G e⟩
  · cases c
end Ps

/-! Shares: their comparisons, where nothing is raised. -/
namespace Ps
open PySem PySem.Spec PyProof.Rows PySem.W L2

/-- v is no number -/
def NotNum (K : Frag) (C : Addr) (H : Hp) (v : V) : Prop := ∃ t, TyX K H v t ∧ kitOne K t (.ref C) = some false ∧ notFirst K C t = true ∧ (t = .type "bool" ∨ kitOne K t (.type "int") = some false)
def spIsNum (K : Frag) (C : Addr) : Sp := fun vs H Q _ => ∃ v, vs = [v] ∧ (((∃ q, Nb C H v q) ∧ Q (.bl true) H) ∨ (NotNum K C H v ∧ Q (.bl false) H))
def gMin (q r : Int × Int) : Int := q.1 * r.2 - r.1 * q.2
def spMinus (C : Addr) : Sp := fun vs H Q _ => ∃ x y q r, vs = [x, y] ∧ Sh C H x q ∧ Nb C H y r ∧ Sz 4000 q ∧ Sz 4000 r ∧ ∀ H', Same H H' → Q (.int (gMin q r)) H'
def spOrd (C : Addr) (g : Int → Bool) : Sp := fun vs H Q _ => ∃ x y q r, vs = [x, y] ∧ Sh C H x q ∧ Nb C H y r ∧ Sz 4000 q ∧ Sz 4000 r ∧ ∀ H', Same H H' → Q (.bl (g (gMin q r))) H'
def spShEq (K : Frag) (C : Addr) : Sp := fun vs H Q _ => ∃ x y q, vs = [x, y] ∧ Sh C H x q ∧ ((∃ r, Nb C H y r ∧ Sz 4000 q ∧ Sz 4000 r ∧ ∀ H', Same H H' → Q (.bl (decide (gMin q r = 0))) H') ∨ (NotNum K C H y ∧ Q (.bl false) H))
theorem Nb.nf {Z : Cz} {C : Addr} (T : ShT Z C) {H : Hp} {y : V} {q : Int × Int} (h : Nb C H y q) : Nf Z.K C H y := by
  rcases h with ⟨a, dx, rfl, ha⟩ | ⟨i, rfl, _⟩
  · exact ⟨_, T.ty ha, nf_own⟩
  · exact ⟨_, .base (.int _), nf_int⟩
theorem NotNum.nf {K : Frag} {C : Addr} {H : Hp} {y : V} (h : NotNum K C H y) : Nf K C H y := by
  obtain ⟨t, ty, _, hn, _⟩ := h
  exact ⟨t, ty, hn⟩
section
variable {Z : Cz} {f C : Addr} {fd : FuncData}
theorem ok_is_number (F : Fun Z.K "is_number" "is_number" s_is_number f fd) (T : ShT Z C) (c_is_integer : Cal Z CX0 1 "is_integer" ["value"] [] (spIsInt Z.K)) : Z.ok CX0 2 f fd ["value"] (spIsNum Z.K C) := by
  refine F.ok sc_is_number (fun vs H Q E h => ?_) (fun cdv A outer s H vs Q E hr h => ?_)
  · obtain ⟨v, rfl, _⟩ := h
    rfl
  · obtain ⟨v, rfl, h⟩ := h
    refine ⟨_, (pss_one (ps_ret (pe_or (pe_callB call_isi (by rfl) T.isi (by decide +kernel) (pa_cons (pv 0) (pa_cons (pe_glob (v := .ref C) rfl T.mgC rfl) pa_nil))) (pe_one (pe_cal c_is_integer (hr.mono (by decide)) (by rfl) pass0 (pa_cons (pv 0) pa_nil)))))), ?_⟩
    rcases h with ⟨⟨q, ⟨a, dx, rfl, ha⟩ | ⟨i, rfl, _⟩⟩, k⟩ | ⟨⟨t, ty, k1, _, k2⟩, k⟩
    · exact ⟨_, rfl, _, _, _, _, true, rfl, .own C, T.ty ha, T.kCC, _, rfl, iteT k⟩
    · refine ⟨_, rfl, _, _, _, _, false, rfl, .own C, .base (.int _), T.kIC, _, rfl, iteF ?_⟩
      exact ⟨_, rfl, _, _, rfl, .base (.int _), .inl ⟨rfl, k⟩⟩
    · refine ⟨_, rfl, _, _, _, _, false, rfl, .own C, ty, k1, _, rfl, iteF ?_⟩
      rcases k2 with rfl | k2
      · exact ⟨_, rfl, _, _, rfl, ty, .inr (.inl ⟨rfl, k⟩)⟩
      · exact ⟨_, rfl, _, _, rfl, ty, .inr (.inr ⟨k2, k⟩)⟩
theorem ok_minus (F : Fun Z.K "minus" "Share.minus" s_Share_minus f fd) (T : ShT Z C) (c_share_of_number : CNum Z C) : Z.ok CX0 5 f fd ["self", "other"] (spMinus C) := by
  refine F.ok sc_Share_minus (fun vs H Q E h => ?_) (fun cdv A outer s H vs Q E hr h => ?_)
  · obtain ⟨x, y, q, r, rfl, _⟩ := h
    rfl
  · obtain ⟨x, y, q, r, rfl, hx, hy, hq, hr', k⟩ := h
    refine ⟨_, (pss_cons (ps_set (i := 1) sc_Share_minus.nd rfl (Or.inl rfl) (pe_cal c_share_of_number (hr.mono (by decide)) (by rfl) pass0 (pa_cons (pv 1) pa_nil)))
      (pss_one (ps_ret (pe_op op_sub (pe_op op_mulW (pe_fld (pv 0) rfl) (pe_fld (pv 1) rfl)) (pe_op op_mulW (pe_fld (pv 1) rfl) (pe_fld (pv 0) rfl)))))), ?_⟩
    refine ⟨_, rfl, _, r, rfl, hy, fun y' H1 e1 hy' => ?_⟩
    obtain ⟨a, dx, rfl, ha⟩ := hx.mono e1
    obtain ⟨b, dy, rfl, hb⟩ := id hy'
    refine ⟨_, rfl, a, C, dx, _, _, rfl, ha, T.cl, T.nT, shF_top _ _, _, rfl, b, C, dy, _, _, rfl, hb, T.cl, T.nU, shF_under _ _, _, _, rfl, rfl, lt_mul hq.t hr'.u, ?_⟩
    exact ⟨_, rfl, b, C, dy, _, _, rfl, hb, T.cl, T.nT, shF_top _ _, _, rfl, a, C, dx, _, _, rfl, ha, T.cl, T.nU, shF_under _ _, _, _, rfl, rfl, lt_mul hr'.t hq.u, _, _, rfl, rfl, k _ e1⟩
abbrev CMinus (Z : Cz) (C : Addr) : Prop := CalM Z CX0 5 C "minus" ["self", "other"] [] (spMinus C)
theorem shF_no' (t u : Int) (m : Str) (h1 : (m == ("own_top" : Str)) = false) (h2 : (m == ("own_under" : Str)) = false) : (shF t u).lookup m = none := by
  unfold shF
  rw [List.lookup_cons, h1, List.lookup_cons, h2]
  rfl
theorem ok_lt (F : Fun Z.K "__lt__" "Share.__lt__" s_Share_dd_lt f fd) (c_minus : CMinus Z C) : Z.ok CX0 6 f fd ["self", "other"] (spOrd C fun i => decide (i < 0)) := by
  refine F.ok sc_Share_dd_lt (fun vs H Q E h => ?_) (fun cdv A outer s H vs Q E hr h => ?_)
  · obtain ⟨x, y, q, r, rfl, _⟩ := h
    rfl
  · obtain ⟨x, y, q, r, rfl, hx, hy, hq, hr', k⟩ := h
    refine ⟨_, (pss_one (ps_ret (pe_cmpR op_lt (pe_calM c_minus (hr.mono (by decide)) pass0 (pv 0) (pa_cons (pv 1) pa_nil)) pe_int (nomark _)))), ?_⟩
    obtain ⟨a, dx, rfl, ha⟩ := id hx
    exact ⟨_, rfl, a, dx, _, rfl, ha, shF_no' _ _ _ (by decide) (by decide), _, rfl, _, _, _, _, rfl, hx, hy, hq, hr', fun H' e => ⟨_, _, rfl, rfl, k _ e⟩⟩
theorem ok_le (F : Fun Z.K "__le__" "Share.__le__" s_Share_dd_le f fd) (c_minus : CMinus Z C) : Z.ok CX0 6 f fd ["self", "other"] (spOrd C fun i => decide (i ≤ 0)) := by
  refine F.ok sc_Share_dd_le (fun vs H Q E h => ?_) (fun cdv A outer s H vs Q E hr h => ?_)
  · obtain ⟨x, y, q, r, rfl, _⟩ := h
    rfl
  · obtain ⟨x, y, q, r, rfl, hx, hy, hq, hr', k⟩ := h
    refine ⟨_, (pss_one (ps_ret (pe_cmpR op_le (pe_calM c_minus (hr.mono (by decide)) pass0 (pv 0) (pa_cons (pv 1) pa_nil)) pe_int (nomark _)))), ?_⟩
    obtain ⟨a, dx, rfl, ha⟩ := id hx
    exact ⟨_, rfl, a, dx, _, rfl, ha, shF_no' _ _ _ (by decide) (by decide), _, rfl, _, _, _, _, rfl, hx, hy, hq, hr', fun H' e => ⟨_, _, rfl, rfl, k _ e⟩⟩
theorem ok_gt (F : Fun Z.K "__gt__" "Share.__gt__" s_Share_dd_gt f fd) (c_minus : CMinus Z C) : Z.ok CX0 6 f fd ["self", "other"] (spOrd C fun i => decide (0 < i)) := by
  refine F.ok sc_Share_dd_gt (fun vs H Q E h => ?_) (fun cdv A outer s H vs Q E hr h => ?_)
  · obtain ⟨x, y, q, r, rfl, _⟩ := h
    rfl
  · obtain ⟨x, y, q, r, rfl, hx, hy, hq, hr', k⟩ := h
    refine ⟨_, (pss_one (ps_ret (pe_cmpR op_gt (pe_calM c_minus (hr.mono (by decide)) pass0 (pv 0) (pa_cons (pv 1) pa_nil)) pe_int (nomark _)))), ?_⟩
    obtain ⟨a, dx, rfl, ha⟩ := id hx
    exact ⟨_, rfl, a, dx, _, rfl, ha, shF_no' _ _ _ (by decide) (by decide), _, rfl, _, _, _, _, rfl, hx, hy, hq, hr', fun H' e => ⟨_, _, rfl, rfl, k _ e⟩⟩
theorem ok_ge (F : Fun Z.K "__ge__" "Share.__ge__" s_Share_dd_ge f fd) (c_minus : CMinus Z C) : Z.ok CX0 6 f fd ["self", "other"] (spOrd C fun i => decide (0 ≤ i)) := by
  refine F.ok sc_Share_dd_ge (fun vs H Q E h => ?_) (fun cdv A outer s H vs Q E hr h => ?_)
  · obtain ⟨x, y, q, r, rfl, _⟩ := h
    rfl
  · obtain ⟨x, y, q, r, rfl, hx, hy, hq, hr', k⟩ := h
    refine ⟨_, (pss_one (ps_ret (pe_cmpR op_ge (pe_calM c_minus (hr.mono (by decide)) pass0 (pv 0) (pa_cons (pv 1) pa_nil)) pe_int (nomark _)))), ?_⟩
    obtain ⟨a, dx, rfl, ha⟩ := id hx
    exact ⟨_, rfl, a, dx, _, rfl, ha, shF_no' _ _ _ (by decide) (by decide), _, rfl, _, _, _, _, rfl, hx, hy, hq, hr', fun H' e => ⟨_, _, rfl, rfl, k _ e⟩⟩
theorem ok_eq (F : Fun Z.K "__eq__" "Share.__eq__" s_Share_dd_eq f fd) (c_minus : CMinus Z C) (c_is_number : Cal Z CX0 2 "is_number" ["value"] [] (spIsNum Z.K C)) : Z.ok CX0 6 f fd ["self", "other"] (spShEq Z.K C) := by
  refine F.ok sc_Share_dd_eq (fun vs H Q E h => ?_) (fun cdv A outer s H vs Q E hr h => ?_)
  · obtain ⟨x, y, q, rfl, _⟩ := h
    rfl
  · obtain ⟨x, y, q, rfl, hx, h⟩ := h
    refine ⟨_, (pss_cons (ps_if (pt_not (pt_val (pe_cal c_is_number (hr.mono (by decide)) (by rfl) pass0 (pa_cons (pv 1) pa_nil))))
      (pss_one (ps_ret pe_bl))
      pss_nil)
      (pss_one (ps_ret (pe_cmpR op_eq (pe_calM c_minus (hr.mono (by decide)) pass0 (pv 0) (pa_cons (pv 1) pa_nil)) pe_int (nomark _))))), ?_⟩
    rcases h with ⟨r, hy, hq, hr', k⟩ | ⟨hn, k⟩
    · refine ⟨_, rfl, _, rfl, .inl ⟨⟨_, hy⟩, _, rfl, iteF ?_⟩⟩
      obtain ⟨a, dx, rfl, ha⟩ := id hx
      refine ⟨_, rfl, a, dx, _, rfl, ha, shF_no' _ _ _ (by decide) (by decide), _, rfl, _, _, _, _, rfl, hx, hy, hq, hr', fun H' e => ⟨rfl, ?_⟩⟩
      have := k _ e
      rw [show decide (V.int (gMin q r) = V.int 0) = decide (gMin q r = 0) from decide_eq_decide.mpr ⟨V.int.inj, fun z => by rw [z]⟩]
      exact this
    · exact ⟨_, rfl, _, rfl, .inr ⟨hn, _, rfl, iteT k⟩⟩
end
end Ps

/-! Common words of the laws about shares. -/
namespace Ps
open PySem PySem.Spec PyProof.Rows PySem.W L2

/-- two rules of one operator -/
theorem op_both {X : Cx} {f : Value → Value → Sem Value} {r1 r2 : R2} (h1 : OpR X f r1) (h2 : OpR X f r2) : OpR X f (fun x y H Q => r1 x y H Q ∨ r2 x y H Q) := by
  intro pins s σ H x y v u Q I rx ry h
  rcases h with h | h
  · exact h1 pins s σ H x y v u Q I rx ry h
  · exact h2 pins s σ H x y v u Q I rx ry h
/-- a test, with a word behind it -/
def tCutT (t : TT) : TT := fun σ H Q => ∃ Mid : Bool → Hp → Prop, t σ H Mid ∧ ∀ b H', Mid b H' → Q b H'
theorem pt_cut {X : Cx} {e : Expr} {t : TT} (h : PT X e t) : PT X e (tCutT t) := by
  refine ⟨fun pins s σ H Q I q => ?_⟩
  obtain ⟨Mid, hm, hq⟩ := q
  exact thn (h.run pins s σ H Mid I hm) fun d s1 ⟨H1, I1, q1⟩ => ⟨H1, I1, hq _ _ q1⟩

theorem mk_shI {C x dx : Addr} {H : Hp} {Q2 : VK} {E : XK} {t u : Int} (hu : u ≠ 0) (hb : u.natAbs < 2 ^ 9000) (hx : H x = none) (hdx : H dx = none) (hne : dx ≠ x) (k : ∀ H', Same H H' → Sh C H' (.ref x) (low t u) → Q2 .non H') :
    spShInit C [.ref x, .int t, .int u] (upd (upd H dx (.own x)) x (.ins C dx [])) Q2 E := by
  refine ⟨x, dx, t, u, rfl, upd_same, hu, hb, fun H' h1 h2 => ?_⟩
  refine k H' (fun b o e => ?_) ⟨x, dx, rfl, h2⟩
  rw [h1 b (ne_of_none e hx), upd_ne (ne_of_none e hx), upd_ne (ne_of_none e hdx)]
  exact e
def pair (q : Int × Int) : List V := [.int q.1, .int q.2]
/-- a new list -/
def NewL (H : Hp) (Q : VK) (xs : List V) : Prop := ∀ p H', Same H H' → H p = none → H' p = some (.lst xs) → Q (.ref p) H'
theorem NewL.here {H H1 : Hp} {Q : VK} {xs : List V} (k : NewL H Q xs) (e : Same H H1) {p : Addr} (hp : H1 p = none) : Q (.ref p) (upd H1 p (.lst xs)) :=
  k p _ (e.trans (Same.upd hp)) (e.free hp) upd_same
theorem pair_dp {K : Frag} {H : Hp} {p : Addr} {q : Int × Int} (h : H p = some (.lst (pair q))) : Dp K H (.ref p) (.list [.int q.1, .int q.2]) := .lst (SqL.of h) (.cons (.int _) (.cons (.int _) .nil))

theorem gAdd_comm (q r : Int × Int) : gAdd q r = gAdd r q := by
  unfold gAdd
  rw [Int.add_comm, Int.mul_comm q.2]
theorem gMul_comm (q r : Int × Int) : gMul q r = gMul r q := by
  unfold gMul
  rw [Int.mul_comm q.1, Int.mul_comm q.2]
theorem Sz.low {n : Nat} {q : Int × Int} (h : Sz n q) : Sz n (Ps.low q.1 q.2) :=
  ⟨Int.ne_of_gt (low_pos h.ne), Nat.lt_of_le_of_lt (low_le1 h.ne) h.t, Nat.lt_of_le_of_lt (low_le2 h.ne) h.u⟩
theorem vne {i j : Int} (h : i ≠ j) : ¬ V.int i = V.int j := fun z => h (V.int.inj z)

theorem Sz.of_low {n : Nat} {t u : Int} (hu : u ≠ 0) (h1 : t.natAbs < 2 ^ n) (h2 : u.natAbs < 2 ^ n) : Sz n (Ps.low t u) :=
  ⟨Int.ne_of_gt (low_pos hu), Nat.lt_of_le_of_lt (low_le1 hu) h1, Nat.lt_of_le_of_lt (low_le2 hu) h2⟩
theorem add_lt {i j : Int} {n : Nat} (hi : i.natAbs < 2 ^ n) (hj : j.natAbs < 2 ^ n) : (i + j).natAbs < 2 ^ (n + 1) := by
  rw [Nat.pow_succ]
  omega
theorem Sz.add {n : Nat} {q r : Int × Int} (hq : Sz n q) (hr : Sz n r) : Sz (n + n + 1) (gAdd q r) :=
  Sz.of_low (Int.mul_ne_zero hq.ne hr.ne) (add_lt (wide_lt hq.t hr.u) (wide_lt hr.t hq.u)) (lt_up (wide_lt hq.u hr.u) (by omega))
theorem Sz.mul {n : Nat} {q r : Int × Int} (hq : Sz n q) (hr : Sz n r) : Sz (n + n) (gMul q r) :=
  Sz.of_low (Int.mul_ne_zero hq.ne hr.ne) (wide_lt hq.t hr.t) (wide_lt hq.u hr.u)
theorem Sz.by_ {n : Nat} {q r : Int × Int} (hq : Sz n q) (hr : Sz n r) (hn : r.1 ≠ 0) : Sz (n + n) (gBy q r) :=
  Sz.of_low (Int.mul_ne_zero hq.ne hn) (wide_lt hq.t hr.u) (wide_lt hq.u hr.t)
theorem shF_no (t u : Int) (m : Str) (h1 : (m == ("own_top" : Str)) = false) (h2 : (m == ("own_under" : Str)) = false) : (shF t u).lookup m = none := by
  unfold shF
  rw [List.lookup_cons, h1, List.lookup_cons, h2]
  rfl

theorem eqv_pair (q : Int × Int) : PyData.eqv (.list [.int q.1, .int q.2]) (.list [.int q.1, .int q.2]) = true := SeqAt.eqv_refl _ rfl
/-- all but p is as it was -/
def Keep (p : Addr) (H H' : Hp) : Prop := ∀ b, b ≠ p → ∀ o, H b = some o → H' b = some o
theorem Keep.refl (p : Addr) (H : Hp) : Keep p H H := fun _ _ _ h => h
theorem Keep.trans {p : Addr} {H H1 H2 : Hp} (a : Keep p H H1) (b : Keep p H1 H2) : Keep p H H2 := fun c hc o h => b c hc o (a c hc o h)
theorem Keep.of_same {p : Addr} {H H1 : Hp} (a : Same H H1) : Keep p H H1 := fun c hc o h => a c o h
theorem Keep.of_eq {p : Addr} {H H1 : Hp} (a : ∀ b, b ≠ p → H1 b = H b) : Keep p H H1 := fun c hc o h => by rw [a c hc]; exact h
theorem Keep.same {p : Addr} {H0 H H1 : Hp} (e : Same H0 H) (hp : H0 p = none) (a : Keep p H H1) : Same H0 H1 := fun b o h => a b (ne_of_none h hp) o (e b o h)
theorem Pool.new {H : Hp} {p q l : Addr} {ms : List Int} {i : Nat} {o : HO} (P : Pool H p q ms i) (hl : H l = none) : Pool (upd H l o) p q ms i :=
  ⟨by rw [upd_ne (ne_of_none P.at_ hl)]; exact P.at_, by rw [upd_ne (ne_of_none P.nums hl)]; exact P.nums, P.len, P.few⟩
theorem Pool.put {H : Hp} {p q l : Addr} {ms : List Int} {i : Nat} {o : HO} (P : Pool H p q ms i) (h1 : l ≠ p) (h2 : l ≠ q) : Pool (upd H l o) p q ms i :=
  ⟨by rw [upd_ne h1.symm]; exact P.at_, by rw [upd_ne h2.symm]; exact P.nums, P.len, P.few⟩
theorem Keep.put {p D : Addr} {H H1 : Hp} {o : HO} (k : Keep p H H1) (hD : H D = none) : Keep p H (upd H1 D o) := fun b hb u h => by
  rw [upd_ne (ne_of_none h hD)]
  exact k b hb u h
def spLaw (K : Frag) : Sp := fun vs H Q _ => ∃ (a : Addr) (ns : List Int), vs = [.ref a] ∧ SqL K H a (ns.map V.int) ∧ ns.length ≤ 63 ∧ ∀ H', Q (.bl true) H'
theorem small4000 {i : Int} (h : i.natAbs ≤ 1000) : i.natAbs < 2 ^ 4000 := lt_up (m := 10) (by omega) (by decide)
theorem two_of {ts : List Int} (h : ts.length = 2) : ∃ a b, ts = [a, b] := by
  match ts, h with
  | [a, b], _ => exact ⟨a, b, rfl⟩

/-- two lists, item by item -/
def Al {α : Type} (R : V → α → Prop) (vs : List V) (qs : List α) : Prop := vs.length = qs.length ∧ ∀ (i : Nat) (v : V) (q : α), vs[i]? = some v → qs[i]? = some q → R v q
section
variable {α : Type} {R S : V → α → Prop} {vs : List V} {qs : List α} {v : V} {q : α}
theorem Al.nil : Al R [] [] := ⟨rfl, fun i v q h => by simp at h⟩
theorem Al.imp (h : Al R vs qs) (k : ∀ v q, R v q → S v q) : Al S vs qs := ⟨h.1, fun i v q a b => k v q (h.2 i v q a b)⟩
theorem Al.snoc (h : Al R vs qs) (hv : R v q) : Al R (vs ++ [v]) (qs ++ [q]) := by
  refine ⟨by rw [List.length_append, List.length_append, h.1]; rfl, fun i a b ha hb => ?_⟩
  by_cases hi : i < vs.length
  · rw [List.getElem?_append_left hi] at ha
    rw [List.getElem?_append_left (by rw [← h.1]; exact hi)] at hb
    exact h.2 i a b ha hb
  · rw [List.getElem?_append_right (by omega)] at ha
    rw [List.getElem?_append_right (by rw [← h.1]; omega), ← h.1] at hb
    cases e : i - vs.length with
    | zero =>
      rw [e] at ha hb
      simp at ha hb
      subst ha; subst hb
      exact hv
    | succ j =>
      rw [e] at ha
      simp at ha
theorem Al.get (h : Al R vs qs) {i : Nat} (hv : vs[i]? = some v) : ∃ q, qs[i]? = some q ∧ R v q := by
  have hi : i < qs.length := by
    rw [← h.1]
    exact (List.getElem?_eq_some_iff.mp hv).1
  exact ⟨qs[i], List.getElem?_eq_getElem hi, h.2 i v _ hv (List.getElem?_eq_getElem hi)⟩
theorem Al.cons (hv : R v q) (h : Al R vs qs) : Al R (v :: vs) (q :: qs) := by
  refine ⟨by simp [h.1], fun i a b ha hb => ?_⟩
  cases i with
  | zero =>
    simp at ha hb
    subst ha; subst hb
    exact hv
  | succ j =>
    simp at ha hb
    exact h.2 j a b ha hb
theorem Al.uncons (h : Al R (v :: vs) (q :: qs)) : R v q ∧ Al R vs qs :=
  ⟨h.2 0 v q rfl rfl, by have := h.1; simpa using this, fun i a b ha hb => h.2 (i + 1) a b ha hb⟩
end
theorem take_more' {α : Type} {l : List α} {i : Nat} {x : α} (h : l[i]? = some x) : l.take (i + 1) = l.take i ++ [x] := by
  rw [List.take_succ, h]
  rfl
theorem Sz.add' {m n : Nat} {q r : Int × Int} (hq : Sz m q) (hr : Sz n r) : Sz (m + n + 1) (gAdd q r) :=
  Sz.of_low (Int.mul_ne_zero hq.ne hr.ne) (add_lt (wide_lt hq.t hr.u) (by rw [Nat.add_comm m n]; exact wide_lt hr.t hq.u)) (lt_up (wide_lt hq.u hr.u) (by omega))
theorem Sz.mul' {m n : Nat} {q r : Int × Int} (hq : Sz m q) (hr : Sz n r) : Sz (m + n) (gMul q r) :=
  Sz.of_low (Int.mul_ne_zero hq.ne hr.ne) (wide_lt hq.t hr.t) (wide_lt hq.u hr.u)
theorem Sz.sub' {m n : Nat} {q r : Int × Int} (hq : Sz m q) (hr : Sz n r) : Sz (m + n + 1) (gSub q r) := hq.add' hr.neg
end Ps

/-! Words of laws that raise and tell. -/
namespace Ps
open PySem PySem.Spec PyProof.Rows PySem.W L2

theorem Same.tup {K : Frag} {H H' : Hp} {a : Addr} {xs : List V} (e : Same H H') (h : SqT K H a xs) : SqT K H' a xs := h.ext (by exact e)
theorem cxUpN {P : Program} {w : World} : StX.CXUp (L2N.CX P w) := by
  rintro outer s H s2 H2 E e s' un kp ho ⟨a, B, H', cls, d, ea, fl, hok, ub, na, os, ag, he⟩
  have fr : ∀ b o, s.heap.get? b = some o → H b = none → H2 b = none := fun b o q n => un.free b o q n (by simp)
  have ub' : UB (frs outer) H H' s.heap B s'.heap :=
    { keep := fun b o q n hb => ub.keep b o (kp b o q) (fr b o q n) hb, slot := fun b o q hb => ub.slot b o (kp b o q) hb, free := fun b o q n => ub.free b o (kp b o q) (fr b o q n), there := fun b o q hb => ub.there b o (kp b o q) hb,
      tups := fun b xs q => ub.tups b xs (un.tups b xs q), frzs := fun b o xs q => ub.frzs b o xs (un.frzs b o xs q),
      tbls := fun b ps q => by
        obtain ⟨m1, e1⟩ := un.tbls b ps q
        obtain ⟨m2, e2⟩ := ub.tbls b _ e1
        exact ⟨m1 ++ m2, by rw [e2, Array.append_assoc]⟩ }
  exact ⟨a, B, H', cls, d, ea, fl, hok, ub', na, os.trans ho, ag, he⟩
theorem pe_never {X : Cx} {e : Expr} : PE X e (fun _ _ _ => False) := ⟨fun _ _ _ _ _ _ h => h.elim⟩
mutual
theorem Dp.mono {K : Frag} {H H' : Hp} (e : Same H H') : ∀ {v : V} {d : PyData}, Dp K H v d → Dp K H' v d
  | _, _, .non => .non
  | _, _, .bl b => .bl b
  | _, _, .int i => .int i
  | _, _, .str x => .str x
  | _, _, .lst h a => .lst (e.seq h) (DpAll.mono e a)
  | _, _, .tup h a => .tup (Same.tup e h) (DpAll.mono e a)
theorem DpAll.mono {K : Frag} {H H' : Hp} (e : Same H H') : ∀ {vs : List V} {ds : List PyData}, DpAll K H vs ds → DpAll K H' vs ds
  | _, _, .nil => .nil
  | _, _, .cons h a => .cons (Dp.mono e h) (DpAll.mono e a)
end
/-- data whose repr is told -/
structure Rp (d : PyData) : Prop where
  show_ : d.showable = true
  nod : d.hasDict = false
  dep : d.depth ≤ 50
  len : d.shown.length ≤ 2000
theorem Rp.d60 {d : PyData} (h : Rp d) : d.depth ≤ 60 := Nat.le_trans h.dep (by decide)
theorem Rp.sz {d : PyData} (h : Rp d) : d.shown.length ≤ sizeLine := Nat.le_trans h.len (Nat.le_of_lt (small1000' (by decide)))
theorem takesN0 {X : Cx} : L2N.Takes X (fun _ _ _ _ => False) := fun _ _ x => by
  obtain ⟨_, _, _, _, _, _, _, _, _, _, _, _, _, _, _, _, z⟩ := x
  exact z.elim
theorem lookup_one {fl : Str} {v : V} : List.lookup fl [(fl, v)] = some v := by simp [List.lookup]
def rpB (d : PyData) : Bool := d.showable && (!d.hasDict && (decide (d.depth ≤ 50) && decide (d.shown.length ≤ 2000)))
theorem rpB_ok {d : PyData} (h : rpB d = true) : Rp d := by
  unfold rpB at h
  simp only [Bool.and_eq_true, Bool.not_eq_true', decide_eq_true_eq] at h
  exact ⟨h.1, h.2.1, h.2.2.1, h.2.2.2⟩
/-- an error of the class at C with the field fl is raised -/
def Rz (C : Addr) (fl : Str) (v : V) (H : Hp) (E : XK) : Prop := ∀ d H', Same H H' → H d = none → H' d = some (.xd [(fl, v)]) → E (.ref C) (some d) H'
theorem Rz.later {C : Addr} {fl : Str} {v : V} {H H1 : Hp} {E : XK} (h : Rz C fl v H E) (e : Same H H1) : Rz C fl v H1 E := fun d H' e' hd hx => h d H' (e.trans e') (e.free hd) hx
theorem Rz.now {C : Addr} {fl : Str} {v : V} {H : Hp} {E : XK} (h : Rz C fl v H E) : ∀ d, H d = none → E (.ref C) (some d) (L2.upd H d (.xd [(fl, v)])) := fun d hd => h d _ (Same.upd hd) hd upd_same
/-- a def called by its address -/
theorem FnOk.toR {P : Program} {w : World} {K : Frag} {mg : Str → Option Value} {base : Heap} {CX : CXT} {k : Nat} {f : Addr} {fd : FuncData} {ps : List Str} {sp : Sp} (F : FnOk P w K mg base CX k f fd ps sp) (hb : Binds K fd ps []) : FnR P w K mg base CX k f sp := by
  intro A outer s H us vs Q E hr e0 r h
  have hl : (us ++ []).length = ps.length := by rw [List.append_nil, ← r.length]; exact F.len _ _ _ _ h
  have hb' := hb s us (fun b o e => (e0.bs b o (e0.mod.kin b o e)).1) hl
  rw [List.append_nil] at hb'
  exact F.run A outer s H ⟨us, []⟩ us vs Q E hr e0 hb' r h
end Ps

/-! Dicts walked by a comprehension: what stands while a dict is locked. -/
namespace Ps
open PySem PySem.Spec PyProof.Rows PySem.W L2 LamX

/-- all stays, but dicts may be locked -/
def Fz (H H' : Hp) : Prop := ∀ b o, H b = some o → H' b = some o ∨ ∃ kvs od, o = .dK kvs ∧ H' b = some (.frz od o)
section
variable {H H1 H2 : Hp}
theorem Fz.of (e : Same H H1) : Fz H H1 := fun b o h => .inl (e b o h)
theorem Fz.same (f : Fz H H1) (e : Same H1 H2) : Fz H H2 := fun b o h => by
  rcases f b o h with h | ⟨kvs, od, z, h⟩
  · exact .inl (e _ _ h)
  · exact .inr ⟨kvs, od, z, e _ _ h⟩
theorem Fz.at (f : Fz H H1) {b : Addr} {o : HO} (h : H b = some o) (n : ∀ kvs, o ≠ .dK kvs := by intro _ z; cases z) : H1 b = some o := by
  rcases f b o h with h | ⟨kvs, od, z, h⟩
  · exact h
  · exact absurd z (n kvs)
theorem Fz.rdK (f : Fz H H1) {b : Addr} {kvs : List (Key × V)} (h : Rd H b (.dK kvs)) : Rd H1 b (.dK kvs) := by
  rcases h with h | ⟨o, h⟩
  · rcases f _ _ h with h | ⟨_, od, _, h⟩
    · exact .inl h
    · exact .inr ⟨od, h⟩
  · exact .inr ⟨o, f.at h⟩
theorem Fz.seqT {K : Frag} {a : Addr} {xs : List V} (f : Fz H H1) (h : SqT K H a xs) : SqT K H1 a xs := by
  rcases h with (h | ⟨o, h⟩) | h
  · exact .inl (.inl (f.at h))
  · exact .inl (.inr ⟨o, f.at h⟩)
  · exact .inr h
theorem Fz.ty {K : Frag} {v : V} {t : Value} (f : Fz H H1) (h : TyX K H v t) : TyX K H1 v t := by
  cases h with
  | base h =>
    cases h with
    | non => exact .base .non
    | bl x => exact .base (.bl x)
    | int i => exact .base (.int i)
    | str x => exact .base (.str x)
    | flt x => exact .base (.flt x)
    | lst h => exact .base (.lst (f.at h))
    | frz h => exact .base (.frz (f.at h))
    | tup h => exact .base (.tup (f.at h))
    | dK h =>
      rcases f _ _ h with h | ⟨_, od, _, h⟩
      · exact .base (.dK h)
      · exact .fDict h
    | dT h => exact .base (.dT (f.at h))
    | ins h cl ha hn htk hm => exact .base (.ins (f.at h) cl ha hn htk hm)
  | byt b => exact .byt b
  | set h => exact .set (f.at h)
  | kList h c => exact .kList h c
  | kTuple h c => exact .kTuple h c
  | kDict h c => exact .kDict h c
  | fTuple h => exact .fTuple (f.at h)
  | fDict h => exact .fDict (f.at h)
theorem fz_lock {a : Addr} {kvs : List (Key × V)} {od : Obj} (h : H a = some (.dK kvs)) : Fz H (upd H a (.frz od (.dK kvs))) := fun b o hb => by
  by_cases z : b = a
  · subst z
    rw [h] at hb
    cases hb
    exact .inr ⟨kvs, od, rfl, upd_same⟩
  · exact .inl (by rw [upd_ne z]; exact hb)
theorem unlock {d : Addr} {u : HO} {od : Obj} (hd : H d = some u) (e : Same (upd H d (.frz od u)) H1) : Same H (upd H1 d u) := fun c o hc => by
  by_cases hcd : c = d
  · subst hcd
    rw [upd_same, ← hd]
    exact hc
  · rw [upd_ne hcd]
    exact e _ _ (by rw [upd_ne hcd]; exact hc)
end
/-- [e for k in d]: results known before -/
theorem lkF {i j : Nat} {σ : L2.St} {H : Hp} {Q : VK} {a : Addr} {kvs : List (Key × V)} {te : TE} (ys : List V) (hj : σ[j]? = some (some (.ref a))) (ha : H a = some (.dK kvs)) (hn : ys.length = kvs.length) (hz : kvs.length ≤ 100000)
    (step : ∀ (n : Nat) k v y H2 (Qe : VK), kvs[n]? = some (k, v) → ys[n]? = some y → Fz H H2 → (∃ od, H2 a = some (.frz od (.dK kvs))) → (∀ H3, Same H2 H3 → Qe y H3) → te ((wipe σ [i]).set i (some (kV k))) H2 Qe)
    (fin : ∀ (D : Addr) (H' : Hp), Same H H' → H D = none → H' D = some (.lst ys) → Q (.ref D) H') :
    tLockE (tLc (iKeys (tVar j)) (gName i) tYes te [i]) σ H Q := by
  refine ⟨a, _, ha, trivial, fun od => ?_⟩
  refine ⟨_, hj, a, od, rfl, .inl ⟨kvs, upd_same, fun D hD => ?_⟩⟩
  have haD : a ≠ D := ne_of_none upd_same hD
  refine lc_it (walk_keys (d := a) (o := od) (kvs := kvs)) (fun m H' => Same (upd H a (.frz od (.dK kvs))) H' ∧ H' D = some (.lst (ys.take m))) ⟨Same.upd hD, upd_same⟩ (fun m H' _ h => h.1 _ _ upd_same) ?_ ?_
  · rintro n x H1 H2 hn1 ⟨e1, hD1⟩ ⟨rfl, k, v, hk, rfl⟩
    have hw : wipe ((wipe σ [i]).set i (some (kV k))) [i] = wipe σ [i] := by
      show (((σ.set i none).set i _).set i none) = σ.set i none
      rw [List.set_set, List.set_set]
    refine ⟨hw, ?_⟩
    have hl : n < ys.length := by omega
    refine step n k v ys[n] _ _ hk (List.getElem?_eq_getElem hl) ((fz_lock ha).same e1) ⟨od, e1 _ _ upd_same⟩ fun H3 e3 => ?_
    refine ⟨_, e3 _ _ hD1, ?_, ?_, ?_⟩
    · rw [List.length_take]
      exact Nat.lt_of_le_of_lt (show min n ys.length ≤ 100000 by omega) (by decide)
    · intro c o hc
      rw [upd_ne (ne_of_none hc hD)]
      exact e3 _ _ (e1 _ _ hc)
    · rw [upd_same, List.take_succ, List.getElem?_eq_getElem hl]
      rfl
  · rintro H1 ⟨e1, hD1⟩
    rw [← hn, List.take_length] at hD1
    refine ⟨e1 _ _ upd_same, fin D _ (unlock ha e1) ?_ (by rw [upd_ne haD.symm]; exact hD1)⟩
    rw [upd_ne haD.symm] at hD
    exact hD
/-- [e for k in d]: results told by a relation -/
theorem lkR {i j : Nat} {σ : L2.St} {H : Hp} {Q : VK} {a : Addr} {kvs : List (Key × V)} {te : TE} {β : Type} {bs : List β} (R : V → β → Hp → Prop) (hj : σ[j]? = some (some (.ref a))) (ha : H a = some (.dK kvs)) (hn : bs.length = kvs.length) (hz : kvs.length ≤ 100000)
    (stab : ∀ y b H2 H3, R y b H2 → (∀ c o, H2 c = some o → (∀ zs, o ≠ .lst zs) → (∀ od ks, o ≠ .frz od (.dK ks)) → H3 c = some o) → R y b H3)
    (step : ∀ (n : Nat) k v b H2 (Qe : VK), kvs[n]? = some (k, v) → bs[n]? = some b → Fz H H2 → (∃ od, H2 a = some (.frz od (.dK kvs))) → (∀ y H3, Same H2 H3 → R y b H3 → Qe y H3) → te ((wipe σ [i]).set i (some (kV k))) H2 Qe)
    (fin : ∀ (D : Addr) (ys : List V) (H' : Hp), Same H H' → H D = none → H' D = some (.lst ys) → Al (fun y b => R y b H') ys bs → Q (.ref D) H') :
    tLockE (tLc (iKeys (tVar j)) (gName i) tYes te [i]) σ H Q := by
  refine ⟨a, _, ha, trivial, fun od => ?_⟩
  refine ⟨_, hj, a, od, rfl, .inl ⟨kvs, upd_same, fun D hD => ?_⟩⟩
  have haD : a ≠ D := ne_of_none upd_same hD
  refine lc_it (walk_keys (d := a) (o := od) (kvs := kvs)) (fun m H' => Same (upd H a (.frz od (.dK kvs))) H' ∧ ∃ ys, H' D = some (.lst ys) ∧ ys.length = m ∧ Al (fun y b => R y b H') ys (bs.take m)) ⟨Same.upd hD, [], upd_same, rfl, Al.nil⟩ (fun m H' _ h => h.1 _ _ upd_same) ?_ ?_
  · rintro n x H1 H2 hn1 ⟨e1, ys, hD1, hlen, al⟩ ⟨rfl, k, v, hk, rfl⟩
    have hw : wipe ((wipe σ [i]).set i (some (kV k))) [i] = wipe σ [i] := by
      show (((σ.set i none).set i _).set i none) = σ.set i none
      rw [List.set_set, List.set_set]
    refine ⟨hw, ?_⟩
    have hl : n < bs.length := by omega
    refine step n k v bs[n] _ _ hk (List.getElem?_eq_getElem hl) ((fz_lock ha).same e1) ⟨od, e1 _ _ upd_same⟩ fun y H3 e3 r3 => ?_
    have hD3 := e3 _ _ hD1
    have st : ∀ y b, R y b H3 → R y b (upd H3 D (.lst (ys ++ [y]))) := fun y b r => stab y b H3 _ r fun c o hc n1 _ => by
      rw [upd_ne fun z => n1 ys (by rw [z, hD3] at hc; exact (Option.some.inj hc).symm)]
      exact hc
    refine ⟨_, hD3, ?_, ?_, ys ++ [y], upd_same, by simp [hlen], ?_⟩
    · exact Nat.lt_of_le_of_lt (show ys.length ≤ 100000 by omega) (by decide)
    · intro c o hc
      rw [upd_ne (ne_of_none hc hD)]
      exact e3 _ _ (e1 _ _ hc)
    · rw [List.take_succ, List.getElem?_eq_getElem hl]
      have st2 : ∀ y' b, R y' b H3 → R y' b (upd H3 D (.lst (ys ++ [y]))) := fun y' b r => stab y' b H3 _ r fun c o hc n1 _ => by
        rw [upd_ne fun z => n1 ys (by rw [z, hD3] at hc; exact (Option.some.inj hc).symm)]
        exact hc
      exact Al.snoc (al.imp fun y' b r => st2 y' b (stab y' b _ _ r fun c o hc _ _ => e3 _ _ hc)) (st2 y _ r3)
  · rintro H1 ⟨e1, ys, hD1, _, al⟩
    rw [← hn, List.take_length] at al
    refine ⟨e1 _ _ upd_same, fin D ys _ (unlock ha e1) ?_ (by rw [upd_ne haD.symm]; exact hD1) (al.imp fun y b r => stab y b _ _ r fun c o hc _ n2 => ?_)⟩
    · rw [upd_ne haD.symm] at hD
      exact hD
    · rw [upd_ne fun z => n2 od kvs (by rw [z, e1 _ _ upd_same] at hc; exact (Option.some.inj hc).symm)]
      exact hc
/-- y in d, y not in d -/
def rInDct (f : Bool → Bool) : R2 := fun y x H Q => ∃ a o, x = .ref a ∧ DGet H a y o ∧ Q (.bl (f o.isSome)) H
theorem op_inDct {X : Cx} (hu : X.A.units + 1 < cLine) : OpR X (compareOp .In) (rInDct id) := by
  intro pins s σ H y x u v Q I ry rx h
  obtain ⟨a, o, rfl, g, q⟩ := h
  cases (show v = Value.ref a from rx)
  exact d_in hu I g ry fun s3 I3 => ⟨.bl o.isSome, H, I3, rfl, q⟩
theorem op_notInDct {X : Cx} (hu : X.A.units + 1 < cLine) : OpR X (compareOp .NotIn) (rInDct not) := by
  intro pins s σ H y x u v Q I ry rx h
  obtain ⟨a, o, rfl, g, q⟩ := h
  cases (show v = Value.ref a from rx)
  exact d_notIn hu I g ry fun s3 I3 => ⟨.bl (!o.isSome), H, I3, rfl, q⟩
end Ps

/-! y in x, x[y], x[y] = v of an instance with own __contains__, __getitem__, __setitem__. -/
namespace Ps
open PySem PySem.Spec PyProof.Rows PySem.W L2

theorem Passes.at {CX : CXT} {X : Cx} {E : XK} (h : Passes CX X E) (σ : L2.St) : PassesAt CX X σ E := fun pins H s e s' I c => h pins σ H s e s' I c
section
variable {Z : Cz} {X : Cx} {CX : CXT} {k : Nat} {C f : Addr} {fd : FuncData} {ps : List Str} {sp : Sp} {E : L2.St → XK}
theorem run_fnS0 {pins : List (Addr × Obj)} {σ : L2.St} {H : Hp} {s : Shared} {Q : VK} {us : List Value} {vs : List V} {E : XK} (F : FnOk X.prog X.w X.K X.mg X.base CX k f fd ps sp) (hr : Room k X.A) (hb : Binds X.K fd ps []) (hx : PassesAt CX X σ E)
    (I : L2.Inv X pins σ H s) (r : Vals vs us) (h : sp vs H Q E) : wpAny (model X.prog X.w) X.A (call (.ref f) us) (EP X pins σ Q) X.xe s := by
  have hl : (us ++ []).length = ps.length := by rw [List.append_nil, ← r.length]; exact F.len _ _ _ _ h
  have hb' := hb s us I.kIn hl
  rw [List.append_nil] at hb'
  refine wpAny_call (codeAny_mono (F.run X.A X.stack s H ⟨us, []⟩ us vs Q E hr I.env0 hb' r h) fun r s' hq => ?_)
  cases r with
  | error e => exact hx pins H s e s' I hq
  | ok fl =>
    cases fl with
    | ret u => exact I.after hq
    | next => exact False.elim hq
    | brk => exact False.elim hq
    | cont => exact False.elim hq
theorem run_fnS1 {pins : List (Addr × Obj)} {σ : L2.St} {H : Hp} {s : Shared} {Q : VK} {us : List Value} {vs : List V} {E : XK} (F : FnOk X.prog X.w X.K X.mg X.base CX k f fd ps sp) (hr : Room (k + 1) X.A) (hb : Binds X.K fd ps []) (hx : PassesAt CX X σ E)
    (I : L2.Inv X pins σ H s) (r : Vals vs us) (h : sp vs H Q E) : wpAny (model X.prog X.w) X.A.in1 (call (.ref f) us) (EP X pins σ Q) X.xe s := by
  have hl : (us ++ []).length = ps.length := by rw [List.append_nil, ← r.length]; exact F.len _ _ _ _ h
  have hb' := hb s us I.kIn hl
  rw [List.append_nil] at hb'
  refine wpAny_call (codeAny_mono (F.run X.A.in1 X.stack s H ⟨us, []⟩ us vs Q E hr.in1 I.env0.in1 hb' r h) fun r s' hq => ?_)
  cases r with
  | error e => exact hx pins H s e s' I hq
  | ok fl =>
    cases fl with
    | ret u => exact I.after hq
    | next => exact False.elim hq
    | brk => exact False.elim hq
    | cont => exact False.elim hq
def rInO (C : Addr) (sp : Sp) : R2 := fun y x H Q => InsC C H x ∧ sp [x, y] H (fun v H' => ∃ b, v = .bl b ∧ Q (.bl b) H') E0
def rNotInO (C : Addr) (sp : Sp) : R2 := fun y x H Q => InsC C H x ∧ sp [x, y] H (fun v H' => ∃ b, v = .bl b ∧ Q (.bl (!b)) H') E0
theorem op_inO (c : CalS Z CX0 k C "__contains__" ps sp) (hr : Room k X.A) (z : InZ Z X := by exact ⟨rfl, rfl, rfl, rfl, rfl⟩) : OpR X (compareOp .In) (rInO C sp) := by
  obtain ⟨f, fd, G, O, hb⟩ := c
  rw [← z.K] at O hb
  intro pins s σ H y x u v Q I ry rx h
  obtain ⟨⟨a, dx, fs, rfl, ha⟩, h⟩ := h
  cases (show v = Value.ref a from rx)
  obtain ⟨mA, J, _⟩ := ins_get I.hok ha
  obtain ⟨od, J, _⟩ := J.look
  obtain ⟨m, hF⟩ := I.fr
  refine in_K hF I.ok.mod.kin J O.fn O.isf (wpAny_mono (run_fnS0 (us := [.ref a, u]) (vs := [.ref a, y]) (z.ok G) hr hb (passAt0 σ) I (.cons rfl (.cons ry .nil)) h) (fun r s' q => ?_) fun _ _ z => z)
  obtain ⟨w, H1, I1, rw1, b, rfl, q⟩ := q
  cases (show r = Value.bool b from rw1)
  exact wpAny_truthy_bool ⟨.bl b, H1, I1, rfl, q⟩
theorem op_notInO (c : CalS Z CX0 k C "__contains__" ps sp) (hr : Room k X.A) (z : InZ Z X := by exact ⟨rfl, rfl, rfl, rfl, rfl⟩) : OpR X (compareOp .NotIn) (rNotInO C sp) := by
  obtain ⟨f, fd, G, O, hb⟩ := c
  rw [← z.K] at O hb
  intro pins s σ H y x u v Q I ry rx h
  obtain ⟨⟨a, dx, fs, rfl, ha⟩, h⟩ := h
  cases (show v = Value.ref a from rx)
  obtain ⟨mA, J, _⟩ := ins_get I.hok ha
  obtain ⟨od, J, _⟩ := J.look
  obtain ⟨m, hF⟩ := I.fr
  refine notIn_K hF I.ok.mod.kin J O.fn O.isf (wpAny_mono (run_fnS0 (us := [.ref a, u]) (vs := [.ref a, y]) (z.ok G) hr hb (passAt0 σ) I (.cons rfl (.cons ry .nil)) h) (fun r s' q => ?_) fun _ _ z => z)
  obtain ⟨w, H1, I1, rw1, b, rfl, q⟩ := q
  cases (show r = Value.bool b from rw1)
  exact wpAny_truthy_bool ⟨.bl (!b), H1, I1, rfl, q⟩
/-- x[y] -/
def tIxO (C : Addr) (sp : Sp) (E : L2.St → XK) (ta tb : TE) : TE := fun σ H Q => ta σ H fun x H1 => tb σ H1 fun y H2 => InsC C H2 x ∧ sp [x, y] H2 Q (E σ)
/-- the class's own __getitem__ -/
def CalI (Z : Cz) (CX : CXT) (k : Nat) (C : Addr) (ps : List Str) (sp : Sp) : Prop := ∃ f fd, Z.ok CX k f fd ps sp ∧ OwnOp Z.K C f "__getitem__" ∧ fnIn Z.K f = true ∧ Binds Z.K fd ps []
theorem pe_ixO {a b : Expr} {ta tb : TE} {pos : Pos} (c : CalI Z CX k C ps sp) (hr : Room (k + 1) X.A) (hx : ∀ σ, PassesAt CX X σ (E σ)) (ha : PE X a ta) (hb : PE X b tb) (z : InZ Z X := by exact ⟨rfl, rfl, rfl, rfl, rfl⟩)
    (hsl : ∀ o i, subscripted b true o i = runValue (.builtin "lifetime.subscript" ⟨[o, i], []⟩) := by intro _ _; rfl) : PE X (.Subscript a b pos) (tIxO C sp E ta tb) := by
  obtain ⟨f, fd, G, O, hf, hbd⟩ := c
  rw [← z.K] at O hbd hf
  refine ⟨fun pins s σ H Q I h => ?_⟩
  refine Subscript_ (binT ha hb I h fun v u s2 x y H2 I2 rx ry q => ?_)
  obtain ⟨⟨ad, dx, fs, rfl, had⟩, q⟩ := q
  cases (show v = Value.ref ad from rx)
  obtain ⟨mA, J, _⟩ := ins_get I2.hok had
  obtain ⟨od, J, _⟩ := J.look
  obtain ⟨m, hF⟩ := I2.fr
  exact sub_K hF I2.ok.mod.kin J O.fn hf O.isf (run_fnS1 (us := [.ref ad, u]) (vs := [.ref ad, y]) (z.ok G) hr hbd (hx σ) I2 (.cons rfl (.cons ry .nil)) q) (hsl _ _)
theorem pe_ixP {a b : Expr} {ta tb : TE} {pos : Pos} {E : XK} (c : CalI Z CX k C ps sp) (hr : Room (k + 1) X.A) (hx : Passes CX X E) (ha : PE X a ta) (hb : PE X b tb) (z : InZ Z X := by exact ⟨rfl, rfl, rfl, rfl, rfl⟩)
    (hsl : ∀ o i, subscripted b true o i = runValue (.builtin "lifetime.subscript" ⟨[o, i], []⟩) := by intro _ _; rfl) : PE X (.Subscript a b pos) (tIxO C sp (fun _ => E) ta tb) := pe_ixO c hr (fun σ => Passes.at hx σ) ha hb z hsl
/-- x[y] = v: nothing is raised -/
def rSetO (C : Addr) (sp : Sp) : V → V → V → Hp → (Hp → Prop) → Prop := fun o i v H Q => InsC C H o ∧ sp [o, i, v] H (fun _ H' => Q H') E0
theorem set_own (c : CalS Z CX0 k C "__setitem__" ps sp) (hq : noSeq Z.K C = true) (hr : Room k X.A) (z : InZ Z X := by exact ⟨rfl, rfl, rfl, rfl, rfl⟩) : PSet X (rSetO C sp) := by
  obtain ⟨f, fd, G, O, hbd⟩ := c
  rw [← z.K] at O hbd hq
  intro pins s σ H o i v ov iv u Q I ro ri rv h
  obtain ⟨⟨a, dx, fs, rfl, ha⟩, h⟩ := h
  cases (show ov = Value.ref a from ro)
  obtain ⟨mA, J, _⟩ := ins_get I.hok ha
  obtain ⟨od, J, _⟩ := J.look
  obtain ⟨m, hF⟩ := I.fr
  refine ksp_setItem hF I.ok.mod.kin J hq O.fn O.isf (wpAny_mono (run_fnS0 (us := [.ref a, iv, u]) (vs := [.ref a, i, v]) (z.ok G) hr hbd (passAt0 σ) I (.cons rfl (.cons ri (.cons rv .nil))) h) (fun r s' q => ?_) fun _ _ z => z)
  obtain ⟨w, H1, I1, rw1, q⟩ := q
  exact ⟨H1, I1, q⟩
end
end Ps

/-! What a step keeps, as a relation; comprehensions by it; draws without counting. -/
namespace Ps
open PySem PySem.Spec PyProof.Rows PySem.W L2 LamX

/-- a relation of heaps that lets new objects come, and lists that came since -/
structure HR (G : Hp → Hp → Prop) (ok : Addr → Prop) : Prop where
  refl : ∀ H, G H H
  trans : ∀ {H H1 H2}, G H H1 → G H1 H2 → G H H2
  new : ∀ {H l o}, H l = none → G H (upd H l o)
  put : ∀ {H H1 D xs ys}, G H H1 → H D = none → H1 D = some (.lst xs) → G H (upd H1 D (.lst ys))
  lst : ∀ {H H1 a xs}, G H H1 → ok a → H a = some (.lst xs) → H1 a = some (.lst xs)
theorem hr_same : HR Same fun _ => True := ⟨Same.refl, fun a b => a.trans b, fun h => Same.upd h, fun a n _ b o e => by
  rw [upd_ne (ne_of_none e n)]
  exact a b o e, fun g _ h => g _ _ h⟩
section
variable {T : List (Addr × Str)} {p : Option Addr}
theorem hr_gr : HR (Gr T p) fun a => some a ≠ p := ⟨Gr.refl, fun a b => a.trans b, fun h => Gr.new h, fun a n h => a.put n h, fun g h e => g.at e h⟩
end
/-! ### draws -/
/-- a pool, wherever its place is -/
def Pl (H : Hp) (p q : Addr) (ms : List Int) : Prop := (∃ i : Nat, H p = some (.lst [.ref q, .int i])) ∧ H q = some (.lst (ms.map V.int))
theorem Pl.ne {H : Hp} {p q : Addr} {ms : List Int} (h : Pl H p q ms) : q ≠ p := by
  obtain ⟨⟨i, h1⟩, h2⟩ := h
  refine ne_of h2 h1 fun z => ?_
  have z := HO.lst.inj z
  cases ms with
  | nil => cases z
  | cons m r => cases (List.cons.inj z).1
theorem Pl.of {H : Hp} {p q : Addr} {ms : List Int} {i : Nat} (h : Pool H p q ms i) : Pl H p q ms := ⟨⟨i, h.at_⟩, h.nums⟩
structure Gp (T : List (Addr × Str)) (p q : Addr) (ms : List Int) (H H' : Hp) : Prop where
  g : Gr T (some p) H H'
  pl : Pl H p q ms → Pl H' p q ms
section
variable {T : List (Addr × Str)} {p q : Addr} {ms : List Int} {H H1 H2 : Hp}
theorem Gp.refl (H : Hp) : Gp T p q ms H H := ⟨Gr.refl H, fun h => h⟩
theorem Gp.trans (a : Gp T p q ms H H1) (b : Gp T p q ms H1 H2) : Gp T p q ms H H2 := ⟨a.g.trans b.g, fun h => b.pl (a.pl h)⟩
theorem Pl.gr (g : Gr T none H H1) (h : Pl H p q ms) : Pl H1 p q ms := by
  obtain ⟨⟨i, h1⟩, h2⟩ := h
  exact ⟨⟨i, g.at h1⟩, g.at h2⟩
theorem Gp.of (g : Gr T none H H1) : Gp T p q ms H H1 := ⟨g.up, fun h => h.gr g⟩
theorem Gp.same (e : Same H H1) : Gp T p q ms H H1 := .of (.of e)
theorem Gp.at {b : Addr} {o : HO} (g : Gp T p q ms H H1) (h : H b = some o) (hb : b ≠ p) (n : ∀ ps, o ≠ .tbl ps := by intro _ z; cases z) : H1 b = some o := g.g.at h (by intro z; exact hb (Option.some.inj z)) n
theorem hr_gp : HR (Gp T p q ms) fun a => a ≠ p := ⟨Gp.refl, fun a b => a.trans b, fun h => .same (Same.upd h), fun a n h => ⟨a.g.put n h, fun h0 => by
  obtain ⟨⟨i, h1⟩, h2⟩ := a.pl h0
  obtain ⟨⟨_, g1⟩, g2⟩ := h0
  exact ⟨⟨i, by rw [upd_ne (ne_of_none g1 n)]; exact h1⟩, by rw [upd_ne (ne_of_none g2 n)]; exact h2⟩⟩, fun g h e => g.at e h⟩
end
/-- a draw -/
def spDr (T : List (Addr × Str)) : Sp := fun vs H Q _ => ∃ (p q : Addr) (ms : List Int) (n : Int), vs = [.ref p, .int n] ∧ Pl H p q ms ∧ 0 < n ∧ ∀ r H', 0 ≤ r → r < n → Gp T p q ms H H' → Q (.int r) H'
theorem ok_dr {Z : Cz} {f : Addr} {fd : FuncData} {TT : List (Addr × Str)} (F : Fun Z.K "_law_draw" "_law_draw" s_lw_draw f fd) (T : DrT Z) : Z.ok CX0 1 f fd ["_law_pool_here", "_law_many"] (spDr TT) := by
  refine F.ok sc_lw_draw (fun vs H Q E h => ?_) (fun cdv A outer s H vs Q E hr h => ?_)
  · obtain ⟨p, q, ms, n, rfl, _⟩ := h
    rfl
  · obtain ⟨p, q, ms, n, rfl, hP, hn, k⟩ := h
    have hne := hP.ne
    obtain ⟨⟨i, h1⟩, h2⟩ := hP
    refine ⟨_, (pss_cons (ps_set (i := 2) sc_lw_draw.nd rfl (Or.inl rfl) (pe_ix ix_list (pv 0) pe_int (fun _ _ => rfl)))
      (pss_cons (ps_asg (pe_op op_add (pv 2) pe_int) (pg_sub (pv 0) pe_int set_list))
      (pss_one (ps_ret (pe_ifExp (pt_cmpR op_lt (pv 2) (pe_callB call_len_seq (by rfl) T.len PySem.boot_len (pa_cons (pe_ix ix_list (pv 0) pe_int (fun _ _ => rfl)) pa_nil)) (nomark _)) (pe_op op_mod (pe_int1 (by rfl) T.int (pe_ix ix_list (pe_ix ix_list (pv 0) pe_int (fun _ _ => rfl)) (pv 2) (fun _ _ => rfl))) (pv 1)) pe_int))))), ?_⟩
    refine ⟨_, rfl, p, _, _, _, rfl, rfl, SqL.of h1, rfl, ?_⟩
    refine ⟨_, rfl, _, _, rfl, rfl, _, rfl, p, _, _, 1, rfl, rfl, h1, rfl, ?_⟩
    have hu : (upd H p (.lst [.ref q, .int ((i : Int) + 1)])) p = some (.lst [.ref q, .int ((i : Int) + 1)]) := upd_same
    have hq : (upd H p (.lst [.ref q, .int ((i : Int) + 1)])) q = some (.lst (ms.map V.int)) := by rw [upd_ne hne]; exact h2
    have hG : Gp TT p q ms H (upd H p (.lst [.ref q, .int ((i : Int) + 1)])) := ⟨.only h1 hu fun b hb => upd_ne hb, fun _ => ⟨⟨i + 1, hu⟩, hq⟩⟩
    refine ⟨_, rfl, _, rfl, p, _, _, _, rfl, rfl, SqL.of hu, rfl, q, _, rfl, .inl (SqL.of hq), _, _, rfl, rfl, _, rfl, iteD (fun hlt => ?_) (fun hge => ?_)⟩
    · rw [List.length_map] at hlt
      have hlt' : i < ms.length := by omega
      refine ⟨_, rfl, p, _, _, _, rfl, rfl, SqL.of hu, rfl, _, rfl, q, _, _, V.int ms[i], rfl, rfl, SqL.of hq, ?_, _, rfl, _, rfl, _, _, rfl, rfl, hn, ?_⟩
      · exact atI_nat (by rw [List.getElem?_map, List.getElem?_eq_getElem hlt']; rfl)
      · exact k _ _ (Int.emod_nonneg _ (by omega)) (Int.emod_lt_of_pos _ hn) hG
    · exact k 0 _ (Int.le_refl 0) hn hG
/-! ### comprehensions -/
theorem wipe_one (σ : L2.St) (i : Nat) (x : V) : wipe ((wipe σ [i]).set i (some x)) [i] = wipe σ [i] := by
  show (((σ.set i none).set i (some x)).set i none) = σ.set i none
  rw [List.set_set, List.set_set]
section
variable {G : Hp → Hp → Prop} {ok : Addr → Prop} {J : It} {n : Nat} {Gd : Hp → Prop} {Y : Nat → Hp → V → Hp → Prop} {P : Nat → V → Prop} {te : TE} {i : Nat} {σ : L2.St} {H1 : Hp} {D : Addr} {Qd : Hp → Prop}
/-- results that are known before -/
theorem lcF (hG : HR G ok) (w : Walk J n Gd Y) (hy : ∀ i H x H', Y i H x H' → H' = H ∧ P i x) {ys : List V} (hn : ys.length = n) (hz : n ≤ 100000) (hD : H1 D = none) (hok : ok D) (hGd : ∀ H2, G H1 H2 → Gd H2)
    (step : ∀ j x y H2 (Qe : VK), P j x → ys[j]? = some y → G H1 H2 → (∀ H3, G H2 H3 → Qe y H3) → te ((wipe σ [i]).set i (some x)) H2 Qe) (fin : ∀ H2, G H1 H2 → H2 D = some (.lst ys) → Qd H2) :
    ∃ W : Nat → Nat → Hp → Prop, (∃ m, W 0 m (upd H1 D (.lst []))) ∧ ∀ k m H, W k m H →
      (J.stop k H ∧ Qd H) ∨ (J.go k H ∧ ∃ Nx : Hp → Prop, (∀ H', Nx H' → ∃ m', m' < m ∧ W (k + 1) m' H') ∧ ∀ x H', J.yld k H x H' → gName i x (wipe σ [i]) H' fun σ2 H2 => wipe σ2 [i] = wipe σ [i] ∧ tYes σ2 H2 fun b H3 =>
        if b = true then te σ2 H3 fun y H4 => ∃ acc, H4 D = some (.lst acc) ∧ acc.length < sizeLine ∧ Nx (upd H4 D (.lst (acc ++ [y]))) else Nx H3) := by
  refine lc_it w (fun j H' => G H1 H' ∧ H' D = some (.lst (ys.take j))) ⟨hG.new hD, upd_same⟩ (fun j H' _ h => hGd _ h.1) ?_ (fun H' h => ?_)
  · rintro j x H2 H' hj ⟨g, hl⟩ y
    obtain ⟨rfl, px⟩ := hy j H2 x H' y
    refine ⟨wipe_one σ i x, ?_⟩
    have hj' : j < ys.length := by omega
    refine step j x ys[j] _ _ px (List.getElem?_eq_getElem hj') g fun H3 g3 => ⟨ys.take j, hG.lst g3 hok hl, ?_, hG.put (hG.trans g g3) hD (hG.lst g3 hok hl), ?_⟩
    · rw [List.length_take]
      exact small1000' (by omega)
    · rw [upd_same, List.take_succ, List.getElem?_eq_getElem hj']
      rfl
  · rw [← hn, List.take_length] at h
    exact fin H' h.1 h.2
/-- results told by a relation -/
theorem lcR (hG : HR G ok) (w : Walk J n Gd Y) (hy : ∀ i H x H', Y i H x H' → H' = H ∧ P i x) {β : Type} {bs : List β} (R : V → β → Hp → Prop) (hn : bs.length = n) (hz : n ≤ 100000) (hD : H1 D = none) (hok : ok D) (hGd : ∀ H2, G H1 H2 → Gd H2)
    (stab : ∀ y b H2 H3, R y b H2 → G H2 H3 → R y b H3) (stabD : ∀ y b H2 xs zs, R y b H2 → H2 D = some (.lst xs) → R y b (upd H2 D (.lst zs)))
    (step : ∀ j x b H2 acc (Qe : VK), P j x → bs[j]? = some b → G H1 H2 → H2 D = some (.lst acc) → (∀ y H3, G H2 H3 → R y b H3 → Qe y H3) → te ((wipe σ [i]).set i (some x)) H2 Qe)
    (fin : ∀ H2 ys, G H1 H2 → H2 D = some (.lst ys) → Al (fun y b => R y b H2) ys bs → Qd H2) :
    ∃ W : Nat → Nat → Hp → Prop, (∃ m, W 0 m (upd H1 D (.lst []))) ∧ ∀ k m H, W k m H →
      (J.stop k H ∧ Qd H) ∨ (J.go k H ∧ ∃ Nx : Hp → Prop, (∀ H', Nx H' → ∃ m', m' < m ∧ W (k + 1) m' H') ∧ ∀ x H', J.yld k H x H' → gName i x (wipe σ [i]) H' fun σ2 H2 => wipe σ2 [i] = wipe σ [i] ∧ tYes σ2 H2 fun b H3 =>
        if b = true then te σ2 H3 fun y H4 => ∃ acc, H4 D = some (.lst acc) ∧ acc.length < sizeLine ∧ Nx (upd H4 D (.lst (acc ++ [y]))) else Nx H3) := by
  refine lc_it w (fun j H' => G H1 H' ∧ ∃ ys, H' D = some (.lst ys) ∧ ys.length = j ∧ Al (fun y b => R y b H') ys (bs.take j)) ⟨hG.new hD, [], upd_same, rfl, Al.nil⟩ (fun j H' _ h => hGd _ h.1) ?_ (fun H' h => ?_)
  · rintro j x H2 H' hj ⟨g, ys, hl, hlen, hal⟩ y
    obtain ⟨rfl, px⟩ := hy j H2 x H' y
    refine ⟨wipe_one σ i x, ?_⟩
    have hj' : j < bs.length := by omega
    refine step j x bs[j] _ ys _ px (List.getElem?_eq_getElem hj') g hl fun v H3 g3 rv => ?_
    have hl3 := hG.lst g3 hok hl
    refine ⟨ys, hl3, small1000' (by omega), hG.put (hG.trans g g3) hD hl3, ys ++ [v], upd_same, by simp [hlen], ?_⟩
    rw [List.take_succ, List.getElem?_eq_getElem hj']
    exact Al.snoc (hal.imp fun y b r => stabD y b H3 _ _ (stab y b _ _ r g3) hl3) (stabD v _ H3 _ _ rv hl3)
  · obtain ⟨g, ys, hl, _, hal⟩ := h
    rw [← hn, List.take_length] at hal
    exact fin H' ys g hl hal
end
theorem yat {xs : List V} : ∀ i (H : Hp) x (H' : Hp), YAt xs i H x H' → H' = H ∧ xs[i]? = some x := fun _ _ _ _ h => h
theorem yfn {f : Nat → V} : ∀ i (H : Hp) x (H' : Hp), YFn f i H x H' → H' = H ∧ x = f i := fun _ _ _ _ h => h
end Ps

/-! {x for x in xs} of a list of ints: how many it has, against the list. -/
namespace Ps
open PySem PySem.Spec PyProof.Rows PySem.W L2

theorem nodup_snoc {l : List Int} {x : Int} : (l ++ [x]).Nodup ↔ l.Nodup ∧ x ∉ l := by
  rw [List.nodup_append]
  constructor
  · rintro ⟨h1, _, h3⟩
    exact ⟨h1, fun hm => h3 x hm x (by simp) rfl⟩
  · rintro ⟨h1, h2⟩
    refine ⟨h1, by simp, fun a ha b hb e => ?_⟩
    rw [List.mem_singleton.mp hb] at e
    exact h2 (e ▸ ha)
theorem vals_at : ∀ {xs : List V} {us : List Value} {i : Nat} {x : V} {u : Value}, Vals xs us → us[i]? = some u → xs[i]? = some x → RelV x u
  | _, _, 0, _, _, .cons r _, h1, h2 => by
    cases h1
    cases h2
    exact r
  | _, _, i + 1, _, _, .cons _ r, h1, h2 => vals_at (i := i) r (by simpa using h1) (by simpa using h2)
/-- the names of the block of a comprehension over one name -/
structure IdB (env : Env) (scope : Scope) (x : Str) : Prop where
  cell : ∀ y ∈ scope.names, y.2 ≠ .cell
  kind : scope.kind = .function
  uniq : ∀ y ∈ scope.names, y.2 = .local → scope.names.lookup y.1 = some .local
  free : ∀ y ∈ scope.names, y.2 ≠ .free
  loc : scope.names.lookup x = some .local
  dbg : (x == ("__debug__" : Str)) = false
def tSetI (w : World) (K : Frag) (te : TE) : TE := fun σ H Q => te σ H fun v H1 => ∃ (a : Addr) (ns : List Int), v = .ref a ∧ SqL K H1 a (ns.map V.int) ∧ ns.length ≤ 1000 ∧ ∀ D S n, H1 D = none → n ≤ ns.length → (n = ns.length ↔ ns.Nodup) → Q (.ref D) (upd H1 D (SetO w D S n))
section
variable {X : Cx}
theorem pe_setI {iter : Expr} {x : Str} {p1 p2 pos : Pos} {scope : Scope} {te : TE} (hc : X.calm = true) (B : IdB X.env scope x) (he : PE X iter te) (hs : ∀ v, foldedSetIterable iter X.env v = pure v := by intro _; rfl) :
    PE X (.SetComp (.Name x p1) [⟨.Name x p2, iter, [], 0⟩] scope pos) (tSetI X.w X.K te) := by
  refine ⟨fun pins s σ H Q I h => ?_⟩
  refine SetComp_goes (closure_ok fun y hy e => absurd e (B.free y hy)) B.cell B.kind B.uniq (thn (he.run pins s σ H _ I h) fun u s1 ⟨v, H1, I1, r1, q1⟩ => ?_) hs
  obtain ⟨a, ns, ev, hl, hn, q⟩ := q1
  subst ev
  cases r1
  obtain ⟨its, rv, pl, hz⟩ := I1.list hl
  have hI : IntsAre its ns := intsAre_of rv
  have hlen : its.length = ns.length := hI.length
  have isl := pl.isList
  obtain ⟨ol, hol, _⟩ := id isl
  have hlt : a < s1.heap.objs.size := Heap.lt_size hol
  refine wpAny_pyIter_list isl ?_
  have kp1 : ∀ b o, s1.heap.get? b = some o → (s1.heap.push { cls := .type "list_iterator", data := .fields #[.ref a, .int 0 0] }).get? b = some o := fun b o e => Heap.get?_push_of_some _ e
  have sz1 : (s1.heap.push { cls := .type "list_iterator", data := .fields #[.ref a, .int 0 0] }).objs.size = s1.heap.objs.size + 1 := size_push' _ _
  refine ⟨s1.heap.objs.size, _, _, _, _, _, rfl, Goes.list (I1.ok.hd hc) s1.heap.objs.size a (Nat.ne_of_lt hlt) its.toArray, ⟨⟨_, Heap.get?_push_size _ rfl, rfl, rfl⟩, isl.at fun o e => kp1 _ o e⟩, fun D C s₃ hB hD => ?_⟩
  obtain ⟨⟨h₃, tk₃, rfl⟩, old, nD, nC, hDC, hnm⟩ := hB
  have nC' : s1.heap.objs.size + 1 ≤ C := by rw [← sz1]; exact nC
  have nD' : s1.heap.objs.size + 1 ≤ D := by rw [← sz1]; exact nD
  have lt_of : ∀ {b : Addr} {o : Obj}, s1.heap.get? b = some o → b ≠ s1.heap.objs.size ∧ b ≠ C ∧ b ≠ D := fun {b o} e => by
    have hb : b < s1.heap.objs.size := Heap.lt_size e
    exact ⟨Nat.ne_of_lt hb, Nat.ne_of_lt (Nat.lt_of_lt_of_le hb (Nat.le_of_succ_le nC')), Nat.ne_of_lt (Nat.lt_of_lt_of_le hb (Nat.le_of_succ_le nD'))⟩
  have kinds : (compEnvC scope (cloFrom X.env.cells scope.names []) C X.env).kindOf x = some .local := lookup_relabel_local B.loc
  have hp : ((compEnvC scope (cloFrom X.env.cells scope.names []) C X.env).scope.kind == .class || ((compEnvC scope (cloFrom X.env.cells scope.names []) C X.env).scope.kind == .module && (compEnvC scope (cloFrom X.env.cells scope.names []) C X.env).locals != (compEnvC scope (cloFrom X.env.cells scope.names []) C X.env).globals)) = false := by
    show (scope.kind == .class || (scope.kind == .module && _)) = false
    rw [B.kind]
    rfl
  have hR0 : SetR X.w h₃ D (fun _ => false) 0 := by
    obtain ⟨o, es, ep, t, ho, r⟩ := setR_fresh (h := s1.heap) X.w
    rw [Heap.get?_push_size _ rfl] at ho
    exact ⟨o, es, ep, t, hD.trans ho, r⟩
  refine ⟨fun i s' => ∃ h' tk m S n, s' = { s1 with heap := h', toks := tk } ∧ h'.Ns C m ∧ SetR X.w h' D S n ∧ (∀ k, S k = decide (k ∈ ns.take i)) ∧ n ≤ i ∧ (n = i ↔ (ns.take i).Nodup) ∧ ∀ b o, s1.heap.get? b = some o → h'.get? b = some o, ⟨h₃, tk₃, _, _, _, rfl, hnm, hR0, fun k => by simp, Nat.le_refl _, by simp, fun b o e => old b o (kp1 b o e)⟩, ?_, ?_, ?_⟩
  · rintro i s' h' tk ⟨h₄, tk₄, m, S, n, rfl, n₄, R₄, hS, hn1, hn2, k₄⟩ hk' _
    refine ⟨h', tk, m, S, n, rfl, n₄.at' fun o e => hk' _ o ?_ e, R₄.at fun o e => hk' _ o ?_ e, hS, hn1, hn2, fun b o e => hk' b o ?_ (k₄ b o e)⟩
    · simp only [List.mem_singleton]
      exact Nat.ne_of_gt nC'
    · simp only [List.mem_singleton]
      exact Nat.ne_of_gt nD'
    · simp only [List.mem_singleton]
      exact (lt_of e).1
  · rintro i u s' hi hu st ⟨h₄, tk₄, m, S, n, rfl, n₄, R₄, hS, hn1, hn2, k₄⟩
    have hi' : i < ns.length := by rw [List.size_toArray, hlen] at hi; exact hi
    have hu' : its[i]? = some u := by simpa using hu
    obtain ⟨t, rfl⟩ : ∃ t, u = .int ns[i] t := vals_at (x := .int ns[i]) rv hu' (by rw [List.getElem?_map, List.getElem?_eq_getElem hi']; rfl)
    refine wpAny_assign_Name (wpAny_storeName_local kinds n₄ (fun h₆ n₆ s₆ => wpAny_tests_nil ?_) hp)
    show wpAny _ _ _ _ _ _
    rw [eval_Name _ _ _ B.dbg]
    refine wpAny_bind (wpAny_standAt (wpAny_loadName_local B.kind kinds n₆ (v := .int ns[i] t) (by simp) ?_))
    have R₆ : SetR X.w h₆ D S n := R₄.at fun o e => s₆.extBut _ _ hDC e
    have hmem : ns[i] ∈ ns.take i ↔ ¬ (S ns[i] = false) := by rw [hS]; simp
    have ek : ns.take (i + 1) = ns.take i ++ [ns[i]] := by rw [List.take_succ, List.getElem?_eq_getElem hi']; rfl
    refine setR_add R₆ (Nat.lt_of_le_of_lt (show n + 1 ≤ 1001 by omega) (by decide)) fun h₇ sb new => ?_
    have up : ∀ b o, b ≠ C → b ≠ D → h₄.get? b = some o → h₇.get? b = some o := fun b o h1 h2 e => (sb.2 b h2).trans (s₆.extBut _ _ h1 e)
    refine ⟨⟨h₇, _, _, _, _, rfl, n₆.at' fun o e => (sb.2 C (Ne.symm hDC)).trans e, new, fun k => ?_, ?_, ?_, fun b o e => up b o (lt_of e).2.1 (lt_of e).2.2 (k₄ b o e)⟩, ?_⟩
    · rw [ek, hS, Bool.eq_iff_iff]
      simp only [Bool.or_eq_true, decide_eq_true_eq, List.mem_append, List.mem_singleton]
    · split <;> omega
    · rw [ek, nodup_snoc]
      cases hb : S ns[i] with
      | true =>
        rw [if_pos rfl]
        have h1 : ns[i] ∈ ns.take i := by rw [hmem, hb]; simp
        constructor
        · intro z; omega
        · rintro ⟨_, z⟩; exact absurd h1 z
      | false =>
        rw [if_neg (by simp)]
        have h1 : ns[i] ∉ ns.take i := by rw [hmem, hb]; simp
        constructor
        · intro z; exact ⟨hn2.mp (by omega), h1⟩
        · rintro ⟨z, _⟩; rw [hn2.mpr z]
    · obtain ⟨z1, z2⟩ := st
      obtain ⟨o1, e1, e2⟩ := z1
      exact ⟨⟨o1, up _ _ (Nat.ne_of_lt nC') (Nat.ne_of_lt nD') e1, e2⟩, z2.at fun o e => up _ o (Nat.ne_of_lt (Nat.lt_of_lt_of_le hlt (Nat.le_of_succ_le nC'))) (Nat.ne_of_lt (Nat.lt_of_lt_of_le hlt (Nat.le_of_succ_le nD'))) e⟩
  · rintro s' ⟨h₄, tk₄, m, S, n, rfl, n₄, R₄, hS, hn1, hn2, k₄⟩
    rw [List.size_toArray, hlen] at hn1 hn2
    rw [List.take_length] at hn2
    refine ⟨m, n₄, fun h' hs' => ?_⟩
    have hDn : H1 D = none := I1.hok.fresh (Nat.le_of_succ_le nD')
    exact ⟨.ref D, upd H1 D (SetO X.w D S n), I1.laid (t' := tk₄) (fun b o e => hs'.extBut b o (lt_of e).2.1 (k₄ b o e)) (Nat.le_of_succ_le nD') (setO_new (R₄.at fun o e => hs'.extBut _ _ hDC e)), rfl, q D S n hDn hn1 hn2⟩
/-- len of a set of ints -/
theorem call_lenSet : CallR X (.builtin "len") (fun xs H Q => ∃ a S n, xs = [.ref a] ∧ H a = some (SetO X.w a S n) ∧ Q (.int (n : Nat)) H) := by
  intro pins s σ H xs us Q I r h
  obtain ⟨a, S, n, rfl, ha, q⟩ := h
  obtain ⟨u, rfl, rx⟩ := vals1 r
  cases rx
  obtain ⟨o, es, ep, t, ho, hex, hd, _, _, _, hsz, hf, hn, _⟩ := setO_get I ha
  refine call_len_set ho hex hd hf ?_ ⟨.int n, H, I.tok _, ⟨_, by rw [hn]⟩, q⟩
  have : scanBound ≤ 2 ^ 62 := by decide
  omega
end
end Ps

/-! Rows: words, nodes, the sort of both. -/
namespace Ps
open PySem PySem.Spec PyProof.Rows PySem.W L2 LamX

abbrev letters : Str := "abcdefghijklmnopqrstuvwxyz"
/-- built-in names -/
structure WdT (Z : Cz) : Prop where
  isi : Z.mg "isinstance" = none
  int : Z.mg "int" = none
  bool : Z.mg "bool" = none
  str : Z.mg "str" = none
  list : Z.mg "list" = none
  len : Z.mg "len" = none
  all : Z.mg "all" = none
  sorted : Z.mg "sorted" = none
  lets : ∃ t, Z.mg "LETTERS" = some (.str letters t)
  ml : ∃ t, Z.mg "MOST_LETTERS" = some (.int 8 t)
structure RwB (Z : Cz) : Prop extends WdT Z where
  mn : ∃ t, Z.mg "MOST_NODES" = some (.int 8 t)
def isW (z : Str) : Bool := decide (1 ≤ z.length ∧ z.length ≤ 8) && z.cps.toList.all fun c => decide (c ∈ letters.cps.toList)
/-- a word, or not -/
inductive WdB (K : Frag) (H : Hp) : V → Bool → Prop
  | str (z : Str) (h : z.length ≤ sizeLine) : WdB K H (.str z) (isW z)
  | odd {v : V} {t : Value} (ty : TyX K H v t) (k : kitOne K t (.type "str") = some false) : WdB K H v false
/-- no integer -/
def NnI (K : Frag) (H : Hp) (v : V) : Prop := ∃ t, TyX K H v t ∧ (t = .type "bool" ∨ kitOne K t (.type "int") = some false)
/-- a node, or not -/
inductive NdB (K : Frag) (m : Int) (H : Hp) : V → Bool → Prop
  | int (n : Int) : NdB K m H (.int n) (decide (0 ≤ n ∧ n < m))
  | odd {v : V} (h : NnI K H v) : NdB K m H v false
/-- nodes, or not -/
inductive NdsB (K : Frag) (m : Int) (H : Hp) : V → Bool → Prop
  | odd {v : V} {t : Value} (ty : TyX K H v t) (k : kitOne K t (.type "list") = some false) : NdsB K m H v false
  | bad {a : Addr} {xs : List V} {bs : List Bool} (h : H a = some (.lst xs)) (hl : xs.length ≤ 1000) (al : Al (NdB K m H) xs bs) (b : bs.all id = false) : NdsB K m H (.ref a) false
  | nds {a : Addr} {ns : List Int} (h : H a = some (.lst (ns.map V.int))) (hl : ns.length ≤ 1000) (hn : ∀ n ∈ ns, 0 ≤ n ∧ n < m) : NdsB K m H (.ref a) (decide ns.Nodup)
def spIsWord (K : Frag) : Sp := fun vs H Q _ => ∃ v b, vs = [v] ∧ WdB K H v b ∧ ∀ H', Same H H' → Q (.bl b) H'
def spAreNodes (K : Frag) : Sp := fun vs H Q _ => ∃ v m b, vs = [v, .int m] ∧ NdsB K m H v b ∧ ∀ H', Same H H' → Q (.bl b) H'
/-- the text of an item -/
def kTx : V → Str
  | .str z => z
  | .int i => toString i
  | _ => ""
def srt (ys : List V) : List V := ys.mergeSort (leTx kTx)
def spAsc (K : Frag) (T : List (Addr × Str)) : Sp := fun vs H Q _ => ∃ (a : Addr) (ys : List V), vs = [.ref a] ∧ Tabs T H ∧ Itr K H a ys ∧ (∀ y ∈ ys, KTx y (kTx y)) ∧ ∀ p H', Grow T H H' → H p = none → H' p = some (.lst (srt ys)) → Q (.ref p) H'
theorem isW_strOk {z : Str} (h : isW z = true) : PyData.strOk z = true := by
  unfold isW at h
  have h2 := List.all_eq_true.mp ((Bool.and_eq_true _ _).mp h).2
  have lo : ∀ c ∈ letters.cps.toList, c < 0x110000 := by decide +kernel
  unfold PyData.strOk
  rw [← Array.all_toList, List.all_eq_true]
  intro c hc
  exact decide_eq_true (lo c (of_decide_eq_true (h2 c hc)))
section
variable {P : Program} {w : World} {K : Frag} {mg : Str → Option Value} {base : Heap}
/-- as Fun.okN, the code object known -/
theorem Fun.okC {x qual : Str} {st : Stmt} {f : Addr} {fd : FuncData} {N ps : List Str} {k : Nat} {sp : Sp} {CX : CXT} (F : Fun K x qual st f fd) (S : FnScope N ps (defScope st)) (len : ∀ vs H Q E, sp vs H Q E → vs.length = ps.length)
    (hbody : ∀ (A : Around) (outer : List Env) (s : Shared) (H : Hp) (vs : List V) (Q : VK) (E : XK), Room k (A.deeper (envOfC qual (defScope st) s.heap.objs.size f fd.code)) → sp vs H Q E →
      ∃ t, PSs (cxOf CX P w K mg base N qual (defScope st) f fd.code A outer s H E) (defBody st) t ∧ t { nx := fun _ H' => Q .non H', rt := Q } (start N vs) H) : FnOk P w K mg base CX (k + 1) f fd ps sp := by
  obtain ⟨oc, od, kV, doc, pm, an, cdv, ct, osl, rfl, lk, hcd⟩ := F.ex
  exact fn_of lk hcd S len hbody
end
/-- lambda x: str(x), by a look at its parts -/
def strLB (params : Arguments) (body : Expr) (scope : Scope) : Bool := match params.args, body with
  | [a], .Call (.Name f _) [.Name x _] [] _ => decide (f = ("str" : Str)) && (decide (a.arg = x) && (decide (scope.names.lookup x = some .local) && (decide (scope.names.lookup ("str" : Str) = some .globalImplicit) && (!(x == ("__debug__" : Str)) &&
      (decide (scope.kind = .function) && (!scope.isCoroutine && (!scope.isGenerator && scope.names.all fun y => !decide (y.2 = .cell) && !decide (y.2 = .free))))))))
  | _, _ => false
theorem strL_by {params : Arguments} {body : Expr} {scope : Scope} {x : Str} {p1 p2 p3 : Pos} (eb : body = .Call (.Name "str" p1) [.Name x p2] [] p3) (h1 : scope.names.lookup x = some .local) (h2 : scope.names.lookup ("str" : Str) = some .globalImplicit) (h3 : (x == ("__debug__" : Str)) = false)
    (h4 : ∀ (q : Str) (cl : List (Str × Addr)) (pm cv ctv u : Value), bindArgs (kla_fn "<lambda>" q params body scope cl pm cv ctv) ⟨[u], []⟩ = pure [(x, u)]) (h5 : scope.kind = .function) (h6 : scope.isCoroutine = false) (h7 : scope.isGenerator = false)
    (h8 : (scope.names.all fun y => !decide (y.2 = .cell) && !decide (y.2 = .free)) = true) : StrL params body scope := by
  refine ⟨⟨x, p1, p2, p3, eb, h1, h2, h3, h4⟩, h5, h6, h7, fun y hy => ?_, fun y hy => ?_⟩
  · have := List.all_eq_true.mp h8 y hy
    simp only [Bool.and_eq_true, Bool.not_eq_true', decide_eq_false_iff_not] at this
    exact this.1
  · have := List.all_eq_true.mp h8 y hy
    simp only [Bool.and_eq_true, Bool.not_eq_true', decide_eq_false_iff_not] at this
    exact this.2
section
variable {Z : Cz} {f : Addr} {fd : FuncData}
theorem ok_isint (F : Fun Z.K "is_integer" "is_integer" s_is_integer f fd) (T : WdT Z) : Z.ok CX0 1 f fd ["value"] (spIsInt Z.K) := by
  refine F.ok sc_is_integer (fun vs H Q E h => ?_) (fun cdv A outer s H vs Q E hr h => ?_)
  · obtain ⟨v, t, rfl, _⟩ := h
    rfl
  · obtain ⟨v, t, rfl, ty, h⟩ := h
    refine ⟨_, (pss_one (ps_ret (pe_and (pe_callB call_isi (by rfl) T.isi (by decide +kernel) (pa_cons (pv 0) (pa_cons (pe_ty "int" (by rfl) T.int (by decide +kernel)) pa_nil))) (pe_one (pe_not (pe_callB call_isi (by rfl) T.isi (by decide +kernel) (pa_cons (pv 0) (pa_cons (pe_ty "bool" (by rfl) T.bool (by decide +kernel)) pa_nil)))))))), ?_⟩
    rcases h with ⟨rfl, q⟩ | ⟨rfl, q⟩ | ⟨e, q⟩
    · refine ⟨_, rfl, _, _, _, _, true, rfl, .ty "int", ty, kit_ty (by decide +kernel), _, rfl, iteT ?_⟩
      exact ⟨_, rfl, _, _, _, _, false, rfl, .ty "bool", ty, kit_ty (by decide +kernel), _, rfl, q⟩
    · refine ⟨_, rfl, _, _, _, _, true, rfl, .ty "int", ty, kit_ty (by decide +kernel), _, rfl, iteT ?_⟩
      exact ⟨_, rfl, _, _, _, _, true, rfl, .ty "bool", ty, kit_ty (by decide +kernel), _, rfl, q⟩
    · exact ⟨_, rfl, _, _, _, _, false, rfl, .ty "int", ty, e, _, rfl, iteF q⟩
theorem ok_is_word (F : Fun Z.K "is_word" "is_word" s_is_word f fd) (T : WdT Z) : Z.ok CX0 1 f fd ["value"] (spIsWord Z.K) := by
  refine F.ok sc_is_word (fun vs H Q E h => ?_) (fun cdv A outer s H vs Q E hr h => ?_)
  · obtain ⟨v, b, rfl, _⟩ := h
    rfl
  · obtain ⟨v, b, rfl, h, k⟩ := h
    obtain ⟨tl, gl⟩ := T.lets
    obtain ⟨tm, gm⟩ := T.ml
    refine ⟨_, (pss_cons (ps_if (PW.pt (pw_or (pt_not (pt_val (pe_callB call_isi (by rfl) T.isi (by decide +kernel) (pa_cons (pv 0) (pa_cons (pe_ty "str" (by rfl) T.str (by decide +kernel)) pa_nil))))) (pw_or1 (pt_not (pt_chain op_le op_le pe_int (pe_callB call_len (by rfl) T.len PySem.boot_len (pa_cons (pv 0) pa_nil)) (pe_glob (v := .int 8) rfl gm ⟨_, rfl⟩))))))
      (pss_one (ps_ret pe_bl))
      pss_nil)
      (pss_one (ps_ret (pe_callB (cr_all rfl) (by rfl) T.all (by decide +kernel) (pa_cons (pe_lc (own := [("sign", 1)]) (g := gName 1) (tt := tYes) (by rfl) sc_is_word.nd (pi_str (pv 0)) (blkOk_by (own := [("sign", 1)]) (N := ["value", "sign"]) (sc := defScope s_is_word) (by decide +kernel)) (fun _ _ _ _ _ => (pg_name (i := 1) sc_is_word.nd rfl (Or.inl rfl))) (fun _ _ _ _ _ => pts_nil) (fun _ _ _ _ _ => (pe_cmpR op_in_sign (pv 1) (pe_glob (v := .str letters) rfl gl ⟨_, rfl⟩) (by rfl)))) pa_nil))))), ?_⟩
    have k0 := k H (Same.refl _)
    cases h with
    | odd ty k1 => exact ⟨_, rfl, _, _, _, _, false, rfl, .ty "str", ty, k1, _, rfl, iteT k0⟩
    | str z hz =>
      refine ⟨_, rfl, _, _, _, _, true, rfl, .ty "str", .base (.str _), kit_ty (by decide +kernel), _, rfl, iteF ?_⟩
      refine ⟨_, rfl, .str z, z.length, rfl, ⟨hz, rfl⟩, _, _, rfl, rfl, _, rfl, ?_⟩
      have hnz : ∀ i : Nat, i < z.cps.size → ∃ c, z.cps[i]? = some c := fun i hi => ⟨z.cps[i], Array.getElem?_eq_getElem hi⟩
      by_cases h1 : 1 ≤ z.length
      · rw [decide_eq_true (show (1 : Int) ≤ ((z.length : Nat) : Int) by omega)]
        refine iteT ⟨_, _, rfl, rfl, _, rfl, ?_⟩
        by_cases h2 : z.length ≤ 8
        · rw [decide_eq_true (show ((z.length : Nat) : Int) ≤ 8 by omega)]
          refine iteF ⟨_, rfl, z, rfl, fun D hD => ?_⟩
          refine lcF hr_same walk_str (P := fun i v => ∃ c, z.cps[i]? = some c ∧ v = .str ⟨#[c]⟩) (fun _ _ _ _ h => h) (ys := (z.cps.toList.map fun c => decide (c ∈ letters.cps.toList)).map V.bl) ?_ ?_ hD trivial (fun _ _ => trivial) ?_ (fun H2 e2 hl => ?_)
          · simp
          · exact Nat.le_trans h2 (by decide)
          · rintro j x y H2 Qe ⟨c, hc, rfl⟩ hy e2 kk
            refine ⟨_, rfl, c, _, rfl, rfl, ?_⟩
            rw [List.getElem?_map, List.getElem?_map, Array.getElem?_toList, hc] at hy
            cases hy
            exact kk H2 (Same.refl _)
          · refine ⟨D, _, rfl, SqL.of hl, ?_⟩
            have e3 : isW z = (z.cps.toList.map fun c => decide (c ∈ letters.cps.toList)).all id := by
              unfold isW
              rw [decide_eq_true ⟨h1, h2⟩, Bool.true_and, List.all_map]
              rfl
            rw [← e3]
            exact k _ e2
        · rw [decide_eq_false (show ¬ ((z.length : Nat) : Int) ≤ 8 by omega)]
          have e3 : isW z = false := by
            unfold isW
            rw [decide_eq_false (show ¬ (1 ≤ z.length ∧ z.length ≤ 8) from fun h => h2 h.2), Bool.false_and]
          rw [e3] at k0
          exact iteT k0
      · rw [decide_eq_false (show ¬ (1 : Int) ≤ ((z.length : Nat) : Int) by omega)]
        have e3 : isW z = false := by
          unfold isW
          rw [decide_eq_false (show ¬ (1 ≤ z.length ∧ z.length ≤ 8) from fun h => h1 h.1), Bool.false_and]
        rw [e3] at k0
        exact iteF ⟨_, rfl, iteT k0⟩
theorem NnI.mono {K : Frag} {H H' : Hp} {v : V} (e : Same H H') (h : NnI K H v) : NnI K H' v := let ⟨t, ty, k⟩ := h; ⟨t, tyX_same e ty, k⟩
/-- sorted by texts -/
theorem ok_asc {T0 : List (Addr × Str)} (F : Fun Z.K "ascending" "ascending" s_ascending f fd) (T : WdT Z) (M : Mkr Z T0 fd.code "ascending.<locals>.<lambda>") : Z.ok CX0 2 f fd ["words"] (spAsc Z.K T0) := by
  refine Fun.okC F sc_ascending (fun vs H Q E h => ?_) (fun A outer s H vs Q E hr h => ?_)
  · obtain ⟨a, ys, rfl, _⟩ := h
    rfl
  · obtain ⟨a, ys, rfl, hT, hi, hk, k⟩ := h
    refine ⟨_, pss_one (ps_ret (pe_callBK (call_sortedStr (k := kTx) rfl T.str (hr.mono (by decide))) (by rfl) T.sorted (by decide +kernel) (pa_cons (pv 0) pa_nil) (pk_cons (pe_lamK (Z := Z) (T := T0) M (strL_by (x := "word") rfl rfl rfl (by decide) (fun _ _ _ _ _ _ => rfl) rfl rfl rfl (by decide +kernel))) pk_nil))), ?_⟩
    refine ⟨_, rfl, hT, fun l H1 g1 t1 kl => ⟨a, l, ys, rfl, rfl, kl, ?_, hk, fun p hp => k p _ (g1.trans (.new hp)) ?_ upd_same⟩⟩
    · rcases hi with hi | hi | ⟨kvs, hd, e⟩
      · exact .inl (g1.seq hi)
      · exact .inr (.inl (g1.seqT hi))
      · exact .inr (.inr ⟨kvs, g1.rdK hd, e⟩)
    · exact g1.f p hp
end
end Ps

/-! == of tuples and dicts whose items may be own instances: both answers. -/
namespace Ps
open PySem PySem.Spec PyProof.Rows PySem.SeqAt
open AutoSeq1 (wpAny_loadPart')
open MeetsSeq MeetsSeq2 MeetsSeq3 SeqRoads2
section
variable {prog : Program} {w : World} {A : Around} {R : Result → Shared → Prop}
theorem tuple_eqB (l b : Addr) (items items2 : Array Value) (n n2 : Nat) (dd dd2 : Option Addr) (sl sl2 : Array (Option Value)) (J : Nat → Shared → Prop)
    (turn : ∀ i (h1 : i < items.size) (h2 : i < items2.size) s, J i s → wpAny (model prog w) A.in1 (eqBool items[i] items2[i]) (fun r s' => (r = true ∧ J (i + 1) s') ∨ (r = false ∧ R (.ok (.ret (.bool false))) s')) (fun e s' => R (.error e) s') s)
    (fin : ∀ s, J (min items.size items2.size) s → R (.ok (.ret (.bool (items.size == items2.size)))) s) {s : Shared} (hl1 : s.heap.get? l = some { cls := .type "tuple", dict := dd, data := .seq items n, slots := sl }) (hb1 : s.heap.get? b = some { cls := .type "tuple", dict := dd2, data := .seq items2 n2, slots := sl2 }) (h : J 0 s) :
    wpAny (model prog w) A.in1 (Builtin.«tuple.__eq__» ⟨[.ref l, .ref b], []⟩) (GQ.FinOf prog w A R) (fun e s' => R (.error e) s') s := by
  have f2 := AutoSeq1.sub_tuple_tuple
  have hZ : (items.toList.zip items2.toList).length = min items.size items2.size := by simp
  have h0 := h
  obtain ⟨hp, g, d, tk, os⟩ := s
  wp_walk using wpAny_loadPart' hl1, wpAny_loadPart' hb1, wpAny_forIn_list _ (fun rest b s' => b.1 = none ∧ ∃ i, rest = (items.toList.zip items2.toList).drop i ∧ i ≤ min items.size items2.size ∧ J i s') _
  case turn =>
    rintro ⟨y, x⟩ rest b s' ⟨hb', i, hz, hi, hI⟩
    have hlt : i < (items.toList.zip items2.toList).length := by
      rcases Nat.lt_or_ge i (items.toList.zip items2.toList).length with h' | h'
      · exact h'
      · rw [List.drop_of_length_le h'] at hz; cases hz
    have hm : i < min items.size items2.size := hZ ▸ hlt
    have h1 : i < items.size := Nat.lt_of_lt_of_le hm (Nat.min_le_left _ _)
    have h2 : i < items2.size := Nat.lt_of_lt_of_le hm (Nat.min_le_right _ _)
    rw [List.drop_eq_getElem_cons hlt] at hz
    injection hz with hyx hrest
    have hy : y = items[i] := by have := congrArg Prod.fst hyx; simpa using this
    have hx : x = items2[i] := by have := congrArg Prod.snd hyx; simpa using this
    subst hy hx
    refine wpAny_bind (wpAny_mono (turn i h1 h2 s' hI) (fun r s2 q2 => ?_) fun _ _ x => x)
    rcases q2 with ⟨hr, q2⟩ | ⟨hr, q2⟩
    · subst hr
      wp_walk
      exact ⟨rfl, i + 1, hrest, hm, q2⟩
    · subst hr
      wp_walk
      exact q2
  case fin =>
    rintro ⟨b1, b2⟩ s' ⟨hb', i, hz, hi, hI⟩
    simp only at hb'
    subst hb'
    have hge : min items.size items2.size ≤ i := by
      rcases Nat.lt_or_ge i (items.toList.zip items2.toList).length with h' | h'
      · rw [List.drop_eq_getElem_cons h'] at hz; cases hz
      · exact hZ ▸ h'
    have hi' : i = min items.size items2.size := by omega
    have hR := fin s' (hi' ▸ hI)
    wp_walk
    exact hR
  case h =>
    exact ⟨rfl, 0, rfl, Nat.zero_le _, h0⟩
theorem tuple_neB (l b : Addr) (items items2 : Array Value) (n n2 : Nat) (dd dd2 : Option Addr) (sl sl2 : Array (Option Value)) (J : Nat → Shared → Prop)
    (turn : ∀ i (h1 : i < items.size) (h2 : i < items2.size) s, J i s → wpAny (model prog w) A.in1 (eqBool items[i] items2[i]) (fun r s' => (r = true ∧ J (i + 1) s') ∨ (r = false ∧ R (.ok (.ret (.bool true))) s')) (fun e s' => R (.error e) s') s)
    (fin : ∀ s, J (min items.size items2.size) s → R (.ok (.ret (.bool (items.size != items2.size)))) s) {s : Shared} (hl1 : s.heap.get? l = some { cls := .type "tuple", dict := dd, data := .seq items n, slots := sl }) (hb1 : s.heap.get? b = some { cls := .type "tuple", dict := dd2, data := .seq items2 n2, slots := sl2 }) (h : J 0 s) :
    wpAny (model prog w) A.in1 (Builtin.«tuple.__ne__» ⟨[.ref l, .ref b], []⟩) (GQ.FinOf prog w A R) (fun e s' => R (.error e) s') s := by
  have f2 := AutoSeq1.sub_tuple_tuple
  have hZ : (items.toList.zip items2.toList).length = min items.size items2.size := by simp
  have h0 := h
  obtain ⟨hp, g, d, tk, os⟩ := s
  wp_walk using wpAny_loadPart' hl1, wpAny_loadPart' hb1, wpAny_forIn_list _ (fun rest b s' => b.1 = none ∧ ∃ i, rest = (items.toList.zip items2.toList).drop i ∧ i ≤ min items.size items2.size ∧ J i s') _
  case turn =>
    rintro ⟨y, x⟩ rest b s' ⟨hb', i, hz, hi, hI⟩
    have hlt : i < (items.toList.zip items2.toList).length := by
      rcases Nat.lt_or_ge i (items.toList.zip items2.toList).length with h' | h'
      · exact h'
      · rw [List.drop_of_length_le h'] at hz; cases hz
    have hm : i < min items.size items2.size := hZ ▸ hlt
    have h1 : i < items.size := Nat.lt_of_lt_of_le hm (Nat.min_le_left _ _)
    have h2 : i < items2.size := Nat.lt_of_lt_of_le hm (Nat.min_le_right _ _)
    rw [List.drop_eq_getElem_cons hlt] at hz
    injection hz with hyx hrest
    have hy : y = items[i] := by have := congrArg Prod.fst hyx; simpa using this
    have hx : x = items2[i] := by have := congrArg Prod.snd hyx; simpa using this
    subst hy hx
    refine wpAny_bind (wpAny_mono (turn i h1 h2 s' hI) (fun r s2 q2 => ?_) fun _ _ x => x)
    rcases q2 with ⟨hr, q2⟩ | ⟨hr, q2⟩
    · subst hr
      wp_walk
      exact ⟨rfl, i + 1, hrest, hm, q2⟩
    · subst hr
      wp_walk
      exact q2
  case fin =>
    rintro ⟨b1, b2⟩ s' ⟨hb', i, hz, hi, hI⟩
    simp only at hb'
    subst hb'
    have hge : min items.size items2.size ≤ i := by
      rcases Nat.lt_or_ge i (items.toList.zip items2.toList).length with h' | h'
      · rw [List.drop_eq_getElem_cons h'] at hz; cases hz
      · exact hZ ▸ h'
    have hi' : i = min items.size items2.size := by omega
    have hR := fin s' (hi' ▸ hI)
    wp_walk
    exact hR
  case h =>
    exact ⟨rfl, 0, rfl, Nat.zero_le _, h0⟩
end
section
variable {prog : Program} {w : World} {A : Around} {E : Value → Shared → Prop} {s : Shared}
theorem rc_tupB {l b : Addr} {items items2 : Array Value} {Q : Value → Shared → Prop} (hu : A.units < cLine) (J : Nat → Shared → Prop) (hl : s.heap.IsTuple l items) (hb : s.heap.IsTuple b items2)
    (turn : ∀ i (h1 : i < items.size) (h2 : i < items2.size) s, J i s → wpAny (model prog w) A.in1 (eqBool items[i] items2[i]) (fun r s' => (r = true ∧ J (i + 1) s') ∨ (r = false ∧ Q (.bool false) s')) E s)
    (fin : ∀ s, J (min items.size items2.size) s → Q (.bool (items.size == items2.size)) s) (h : J 0 s) : wpAny (model prog w) A (richCompare .Eq (.ref l) (.ref b)) Q E s := by
  obtain ⟨⟨cls, dd, data, sl⟩, ho, hc, n, hd⟩ := id hl
  obtain ⟨⟨cls2, dd2, data2, sl2⟩, ho2, hc2, n2, hd2⟩ := id hb
  simp only at hc hd hc2 hd2
  subst hc hd hc2 hd2
  refine wpAny_richCompare_same_room (op := .Eq) ⟨_, ho, rfl⟩ ⟨_, ho2, rfl⟩ F.slot_tuple_eq (GQ.call_here F.slot_tuple_eq ⟨_, ho, rfl⟩ F.entry_tuple_eq (F.args_tuple_eq_2 _ _) ?_) hu
  exact tuple_eqB (R := wants (fun v s' => v ≠ .notImplemented ∧ Q v s') E) l b items items2 n n2 dd dd2 sl sl2 J (fun i h1 h2 s q => wpAny_mono (turn i h1 h2 s q) (fun r s' z => z.elim .inl fun z => .inr ⟨z.1, (fun x => nomatch x), z.2⟩) fun _ _ x => x) (fun s' q => ⟨(fun x => nomatch x), fin s' q⟩) ho ho2 h
theorem rc_tupN {l b : Addr} {items items2 : Array Value} {Q : Value → Shared → Prop} (hu : A.units < cLine) (J : Nat → Shared → Prop) (hl : s.heap.IsTuple l items) (hb : s.heap.IsTuple b items2)
    (turn : ∀ i (h1 : i < items.size) (h2 : i < items2.size) s, J i s → wpAny (model prog w) A.in1 (eqBool items[i] items2[i]) (fun r s' => (r = true ∧ J (i + 1) s') ∨ (r = false ∧ Q (.bool true) s')) E s)
    (fin : ∀ s, J (min items.size items2.size) s → Q (.bool (items.size != items2.size)) s) (h : J 0 s) : wpAny (model prog w) A (richCompare .NotEq (.ref l) (.ref b)) Q E s := by
  obtain ⟨⟨cls, dd, data, sl⟩, ho, hc, n, hd⟩ := id hl
  obtain ⟨⟨cls2, dd2, data2, sl2⟩, ho2, hc2, n2, hd2⟩ := id hb
  simp only at hc hd hc2 hd2
  subst hc hd hc2 hd2
  refine wpAny_richCompare_same_room (op := .NotEq) ⟨_, ho, rfl⟩ ⟨_, ho2, rfl⟩ F.slot_tuple_ne (GQ.call_here F.slot_tuple_ne ⟨_, ho, rfl⟩ F.entry_tuple_ne (F.args_tuple_ne_2 _ _) ?_) hu
  exact tuple_neB (R := wants (fun v s' => v ≠ .notImplemented ∧ Q v s') E) l b items items2 n n2 dd dd2 sl sl2 J (fun i h1 h2 s q => wpAny_mono (turn i h1 h2 s q) (fun r s' z => z.elim .inl fun z => .inr ⟨z.1, (fun x => nomatch x), z.2⟩) fun _ _ x => x) (fun s' q => ⟨(fun x => nomatch x), fin s' q⟩) ho ho2 h
end
end Ps

/-! == of dicts whose values may be own instances: both answers, at the model's level. -/
namespace Ps
open PySem PySem.Spec PySem.W PySem.Calls PyProof.Rows PyProof.V
section
variable {prog : Program} {w : World} {κ : Type} [DecidableEq κ] {knd : KeyKind prog w κ} {A : Around} {E : Value → Shared → Prop} {s : Shared}
theorem samePairsB {nm : String} {a b : Addr} {oa ob : Obj} {ka kb : List (κ × Value)} {Q : Bool → Shared → Prop} (ha : (a == sysModules) = false) (hb : (b == sysModules) = false)
    (da : s.heap.DictOf knd a ka) (db : s.heap.DictOf knd b kb) (hoa0 : s.heap.get? a = some oa) (hob0 : s.heap.get? b = some ob) (J : Nat → Shared → Prop) (hJ : ∀ i s', J i s' → s'.heap.get? a = some oa ∧ s'.heap.get? b = some ob)
    (turn : ∀ (i : Nat) (k : κ) (v : Value) (s' : Shared), ka[i]? = some (k, v) → J i s' → (valueAt kb k = none → Q false s') ∧ ∀ y, valueAt kb k = some y → wpAny (model prog w) A (eqBool v y) (fun r s2 => (r = true ∧ J (i + 1) s2) ∨ (r = false ∧ Q false s2)) E s')
    (fin : ∀ s', J ka.length s' → Q true s') (h0 : ka.length = kb.length → J 0 s) (hne : ka.length ≠ kb.length → Q false s) :
    wpAny (model prog w) A (Builtin.Dict.samePairs nm a b) Q E s := by
  obtain ⟨oa', es, ep, hoa, _, hda, hka, hpa, _⟩ := da
  obtain ⟨ob', es', ep', hob, _, hdb, hkb, hpb, _⟩ := db
  cases hoa.symm.trans hoa0
  cases hob.symm.trans hob0
  have hla : ka.length = es.size := by rw [← hpa.length]; exact Array.length_toList
  have hlb : kb.length = es'.size := by rw [← hpb.length]; exact Array.length_toList
  have hfind : ∀ k, findBy knd.is es' k = valueAt kb k := fun k => by
    rw [← hpb.find k]
    clear hlb hpb hkb hdb hob hob0 hJ
    obtain ⟨l⟩ := es'
    simp [findBy]
  unfold Builtin.Dict.samePairs Builtin.Dict.showsAll
  rw [if_neg (show ¬ (a == sysModules) = true by rw [ha]; exact Bool.false_ne_true), if_neg (show ¬ (b == sysModules) = true by rw [hb]; exact Bool.false_ne_true)]
  refine wpAny_bind (wpAny_pure (wpAny_bind (wpAny_pure ?_)))
  refine wpAny_bind (wpAny_dictEntries hoa hda ?_)
  dsimp only
  refine wpAny_bind (wpAny_dictEntries hob hdb ?_)
  by_cases hsz : es.size = es'.size
  case neg =>
    rw [if_pos (by simpa using hsz)]
    exact wpAny_bind (wpAny_rule (wpAny_pure (hne (by rw [hla, hlb]; exact hsz))))
  case pos =>
    rw [if_neg (by rw [hsz]; simp)]
    refine wpAny_bind (wpAny_dictEpoch hoa hda ?_)
    refine wpAny_bind ?_
    rw [Std.Legacy.Range.forIn_eq_forIn_range']
    simp only [Std.Legacy.Range.size, Nat.sub_zero, Nat.add_sub_cancel, Nat.div_one]
    refine wpAny_forIn_list _
      (fun rest q s' => q = (none, ()) ∧ ∃ i, rest = List.range' i (es.size - i) ∧ i ≤ es.size ∧ J i s')
      _ ?_ ?_ _ _ ⟨rfl, 0, by simp, Nat.zero_le _, h0 (by rw [hla, hlb]; exact hsz)⟩
    · rintro x rest q s' ⟨rfl, i, hr, hi, hpre⟩
      obtain ⟨hoa', hob'⟩ := hJ i s' hpre
      have hlt : i < es.size := by
        rcases Nat.lt_or_ge i es.size with h | h
        · exact h
        · rw [Nat.sub_eq_zero_of_le h] at hr; simp at hr
      obtain ⟨rfl, hrest⟩ : x = i ∧ rest = List.range' (i + 1) (es.size - (i + 1)) := by
        have e : es.size - i = (es.size - (i + 1)) + 1 := by omega
        rw [e, List.range'_succ] at hr
        injection hr with h1 h2
        exact ⟨h1, h2⟩
      refine wpAny_bind (wpAny_dictEntries hoa' hda ?_)
      rw [Array.getElem?_eq_getElem hlt]
      have hlt' : x < ka.length := by rw [hla]; exact hlt
      obtain ⟨k, v, hkv⟩ : ∃ k v, ka[x] = (k, v) := ⟨_, _, rfl⟩
      have hget : ka[x]? = some (k, v) := by rw [List.getElem?_eq_getElem hlt', hkv]
      obtain ⟨hkey, hval⟩ := hpa.get? (i := x) (e := es[x]) (k := k) (v := v) (by rw [Array.getElem?_toList]; exact Array.getElem?_eq_getElem hlt) hget
      obtain ⟨k', hk', hh⟩ := hka es[x] (Array.getElem_mem hlt)
      have ekk : k' = k := knd.inj _ _ _ hk' hkey
      rw [ekk] at hh
      obtain ⟨tn, th⟩ := turn x k v s' hget hpre
      show wpAny _ _ (holding [es[x].key, es[x].val] _ >>= _) _ _ _
      rw [hh]
      refine wpAny_bind (wpAny_holding (wpAny_bind (wpAny_dictFind_of hkey hob' hdb hkb ?_)))
      cases hj : es'.findIdx? fun e => knd.is k e.key with
      | none =>
        have hn : valueAt kb k = none := by rw [← hfind k, findBy_of_findIdx?, hj]
        refine wpAny_pure ?_
        show wpAny _ _ (if (!false) = true then _ else _) _ _ _
        rw [if_pos (by decide)]
        exact wpAny_pure (wpAny_pure (tn hn))
      | some j =>
        obtain ⟨hjlt, _, _⟩ := Array.findIdx?_eq_some_iff_getElem.mp hj
        have hv' : valueAt kb k = some es'[j].val := by
          rw [← hfind k, findBy_of_findIdx?, hj]
          simp [Array.getElem?_eq_getElem hjlt]
        refine wpAny_bind (wpAny_dictEntries hob' hdb ?_)
        rw [Array.getElem?_eq_getElem hjlt]
        have he := th _ hv'
        rw [← hval] at he
        refine wpAny_holding (wpAny_mono he (fun r s2 q2 => ?_) fun _ _ x => x)
        rcases q2 with ⟨rfl, q2⟩ | ⟨rfl, q2⟩
        · obtain ⟨hoa2, _⟩ := hJ _ _ q2
          show wpAny _ _ (if (!true) = true then _ else _) _ _ _
          rw [if_neg (by decide)]
          refine wpAny_bind (wpAny_dictEpoch hoa2 hda ?_)
          rw [if_neg (by simp)]
          exact wpAny_pure ⟨rfl, x + 1, hrest, hlt, q2⟩
        · show wpAny _ _ (if (!false) = true then _ else _) _ _ _
          rw [if_pos (by decide)]
          exact wpAny_pure (wpAny_pure q2)
    · rintro q s' ⟨rfl, i, hr, hi, hpre⟩
      have hin : i = es.size := by
        rcases Nat.lt_or_ge i es.size with h | h
        · have e : es.size - i = (es.size - (i + 1)) + 1 := by omega
          rw [e, List.range'_succ] at hr; exact nomatch hr
        · exact Nat.le_antisymm hi h
      refine wpAny_pure ?_
      rw [hin, ← hla] at hpre
      exact fin s' hpre
theorem rc_dictB {a b : Addr} {oa ob : Obj} {ka kb : List (κ × Value)} {Q : Value → Shared → Prop} (ha : (a == sysModules) = false) (hb : (b == sysModules) = false)
    (da : s.heap.DictOf knd a ka) (db : s.heap.DictOf knd b kb) (hoa0 : s.heap.get? a = some oa) (hob0 : s.heap.get? b = some ob) (hu : A.units < cLine) (J : Nat → Shared → Prop) (hJ : ∀ i s', J i s' → s'.heap.get? a = some oa ∧ s'.heap.get? b = some ob)
    (turn : ∀ (i : Nat) (k : κ) (v : Value) (s' : Shared), ka[i]? = some (k, v) → J i s' → (valueAt kb k = none → Q (.bool false) s') ∧ ∀ y, valueAt kb k = some y → wpAny (model prog w) A.in1 (eqBool v y) (fun r s2 => (r = true ∧ J (i + 1) s2) ∨ (r = false ∧ Q (.bool false) s2)) E s')
    (fin : ∀ s', J ka.length s' → Q (.bool true) s') (h0 : ka.length = kb.length → J 0 s) (hne : ka.length ≠ kb.length → Q (.bool false) s) :
    wpAny (model prog w) A (richCompare .Eq (.ref a) (.ref b)) Q E s := by
  refine wpAny_richCompare_same_room (op := .Eq) da.typeIs db.typeIs PySem.F.slot_dict_eq (wpAny_call_entry PySem.F.slot_dict_eq da.typeIs PySem.F.entry_dict_eq ?_ (PySem.F.args_dict_eq_2 _ _)) hu
  show wpAny _ _ (Builtin.Dict.dictSlotArgs "__eq__" ⟨[.ref a, .ref b], []⟩ >>= _) _ _ s
  refine wpAny_bind ?_
  unfold Builtin.Dict.dictSlotArgs
  refine wpAny_bind (wpAny_notOrdered_dict da.typeIs ?_)
  show wpAny _ _ (pure (Value.ref a, Value.ref b)) _ _ s
  refine wpAny_pure ?_
  refine wpAny_bind (wpAny_isInstance (T := "dict") db.typeIs PySem.F.sub_dict_dict ?_)
  simp only [Bool.not_true, Bool.false_eq_true, if_false]
  refine wpAny_bind (wpAny_pure (wpAny_bind (wpAny_pure ?_)))
  refine wpAny_bind (samePairsB (Q := fun r s' => wpAny (model prog w) A.in1 (ret (.bool (r == true))) _ E s') ha hb da db hoa0 hob0 J hJ (fun i k v s' hg hj => ?_) (fun s' hj => ?_) h0 fun hn => ?_)
  · obtain ⟨t1, t2⟩ := turn i k v s' hg hj
    refine ⟨fun hn => wpAny_pure ⟨_, rfl, (fun x => nomatch x), by simpa using t1 hn⟩, fun y hy => wpAny_mono (t2 y hy) (fun r s2 z => z.imp id fun z => ⟨z.1, wpAny_pure ⟨_, rfl, (fun x => nomatch x), by simpa using z.2⟩⟩) fun _ _ x => x⟩
  · exact wpAny_pure ⟨_, rfl, (fun x => nomatch x), by simpa using fin s' hj⟩
  · exact wpAny_pure ⟨_, rfl, (fun x => nomatch x), by simpa using hne hn⟩
end
end Ps

/-! == of tuples and dicts whose items may be own instances: over the abstract heap. -/
namespace Ps
open PySem PySem.Spec PyProof.Rows PySem.W L2

abbrev Eqb := V → V → Bool → Hp → Prop
/-- all but dicts stay -/
def Nd (H H' : Hp) : Prop := ∀ a o, H a = some o → (∀ kvs, o ≠ .dK kvs) → H' a = some o
theorem Nd.of {H H' : Hp} (e : Same H H') : Nd H H' := fun a o h _ => e a o h
theorem Nd.trans {H H1 H2 : Hp} (e : Nd H H1) (e' : Nd H1 H2) : Nd H H2 := fun a o h n => e' a o (e a o h n) n
theorem Nd.rd {H H' : Hp} {a : Addr} {o : HO} (e : Nd H H') (n : ∀ kvs, o ≠ .dK kvs) (h : Rd H a o) : Rd H' a o := h.elim (fun h => .inl (e _ _ h n)) fun ⟨o', h⟩ => .inr ⟨o', e _ _ h (fun _ z => nomatch z)⟩
theorem Nd.tup {K : Frag} {H H' : Hp} {a : Addr} {xs : List V} (e : Nd H H') (h : SqT K H a xs) : SqT K H' a xs := h.elim (fun h => .inl (e.rd (fun _ z => nomatch z) h)) .inr
theorem Nd.lst {K : Frag} {H H' : Hp} {a : Addr} {xs : List V} (e : Nd H H') (h : SqL K H a xs) : SqL K H' a xs := h.elim (fun h => .inl (e.rd (fun _ z => nomatch z) h)) .inr
def MonB (D : Eqb) : Prop := ∀ x y b H H', Nd H H' → D x y b H → D x y b H'
def EqB (X : Cx) (n : Nat) (D : Eqb) : Prop :=
  ∀ (A : Around) (pins : List (Addr × Obj)) (s : Shared) (σ : L2.St) (H : Hp) (x y : V) (b : Bool) (u v : Value), Sub X n A → L2.Inv X pins σ H s → RelV x u → RelV y v → D x y b H →
    wpAny (model X.prog X.w) A (eqBool u v) (fun r s' => r = b ∧ ∃ H', L2.Inv X pins σ H' s' ∧ Same H H') X.xe s
def RcB (X : Cx) (n : Nat) (D : Eqb) : Prop :=
  ∀ (A : Around) (pins : List (Addr × Obj)) (s : Shared) (σ : L2.St) (H : Hp) (x y : V) (b : Bool) (u v : Value), Sub X n A → L2.Inv X pins σ H s → RelV x u → RelV y v → D x y b H →
    wpAny (model X.prog X.w) A (richCompare .Eq u v) (fun r s' => r = .bool b ∧ ∃ H', L2.Inv X pins σ H' s' ∧ Same H H') X.xe s
section
variable {X : Cx} {n m : Nat} {D D' : Eqb}
theorem EqB.mono (h : EqB X n D) (hn : n ≤ m) : EqB X m D := fun A pins s σ H x y b u v sb => h A pins s σ H x y b u v (sb.mono hn)
theorem RcB.mono (h : RcB X n D) (hn : n ≤ m) : RcB X m D := fun A pins s σ H x y b u v sb => h A pins s σ H x y b u v (sb.mono hn)
theorem EqB.or (h : EqB X n D) (h' : EqB X n D') : EqB X n (fun x y b H => D x y b H ∨ D' x y b H) := fun A pins s σ H x y b u v sb I rx ry d =>
  d.elim (fun d => h A pins s σ H x y b u v sb I rx ry d) fun d => h' A pins s σ H x y b u v sb I rx ry d
theorem MonB.or (h : MonB D) (h' : MonB D') : MonB (fun x y b H => D x y b H ∨ D' x y b H) := fun x y b H H' e d => d.elim (fun d => .inl (h x y b H H' e d)) fun d => .inr (h' x y b H H' e d)
theorem RcB.eqB (h : RcB X n D) (hr : ∀ x y b H, D x y b H → ∃ a c, x = .ref a ∧ y = .ref c ∧ (a = c → b = true)) : EqB X n D := by
  intro A pins s σ H x y b u v sb I rx ry d
  obtain ⟨a, c, rfl, rfl, hs⟩ := hr _ _ _ _ d
  cases rx
  cases ry
  by_cases hab : a = c
  · have hb := hs hab
    subst hab
    exact SeqAt.EqAt.same (A := A) (s := s) (.ref a) X.prog X.w X.xe _ ⟨hb.symm, H, I, Same.refl _⟩
  · refine GQ.eqBool_refG hab (wpAny_mono (h A pins s σ H (.ref a) (.ref c) b _ _ sb I rfl rfl d) (fun r s' q => ?_) fun _ _ x => x)
    exact ⟨b, q.1, rfl, q.2⟩
/-! flat values -/
def DFl : Eqb := fun x y b _ => flatV x = true ∧ flatV y = true ∧ b = eqV x y
theorem mon_fl : MonB DFl := fun _ _ _ _ _ _ d => d
theorem eqB_fl : EqB X 0 DFl := by
  intro A pins s σ H x y b u v sb I rx ry d
  obtain ⟨fx, fy, e⟩ := d
  subst e
  exact eqAt_V (A := A) (s := s) rx ry fx fy X.prog X.w X.xe _ ⟨rfl, H, I, Same.refl _⟩
/-! a text and a tuple -/
def DFT (K : Frag) : Eqb := fun x y b H => b = false ∧ ∃ z a xs, SqT K H a xs ∧ ((x = .str z ∧ y = .ref a) ∨ (y = .str z ∧ x = .ref a))
theorem mon_ft {K : Frag} : MonB (DFT K) := fun x y b H H' e d => by
  obtain ⟨hb, z, a, xs, h, k⟩ := d
  exact ⟨hb, z, a, xs, e.tup h, k⟩
theorem eqB_ft : EqB X 0 (DFT X.K) := by
  intro A pins s σ H x y b u v sb I rx ry d
  obtain ⟨rfl, z, a, xs, h, ⟨rfl, rfl⟩ | ⟨rfl, rfl⟩⟩ := d
  · obtain ⟨its, r, p, _⟩ := I.tuple h
    obtain ⟨t, rfl⟩ := rx
    cases ry
    exact SeqAt.EqAt.str_tuple z t p sb.room.units0 X.prog X.w X.xe _ ⟨rfl, H, I, Same.refl _⟩
  · obtain ⟨its, r, p, _⟩ := I.tuple h
    obtain ⟨t, rfl⟩ := ry
    cases rx
    exact SeqAt.EqAt.tuple_str z t p sb.room.units0 X.prog X.w X.xe _ ⟨rfl, H, I, Same.refl _⟩
/-! item by item -/
inductive PrsB (D : Eqb) (H : Hp) : List V → List V → Bool → Prop
  | nil : PrsB D H [] [] true
  | left {y : V} {ys : List V} : PrsB D H [] (y :: ys) false
  | right {x : V} {xs : List V} : PrsB D H (x :: xs) [] false
  | no {x y : V} {xs ys : List V} : D x y false H → PrsB D H (x :: xs) (y :: ys) false
  | yes {x y : V} {xs ys : List V} {b : Bool} : D x y true H → PrsB D H xs ys b → PrsB D H (x :: xs) (y :: ys) b
theorem PrsB.mon (hD : MonB D) {H H' : Hp} (e : Nd H H') {xs ys : List V} {b : Bool} (p : PrsB D H xs ys b) : PrsB D H' xs ys b := by
  induction p with
  | nil => exact .nil
  | left => exact .left
  | right => exact .right
  | no d => exact .no (hD _ _ _ _ _ e d)
  | yes d _ ih => exact .yes (hD _ _ _ _ _ e d) ih
def DTupB (K : Frag) (D : Eqb) : Eqb := fun x y b H => ∃ a c xs ys, x = .ref a ∧ y = .ref c ∧ SqT K H a xs ∧ SqT K H c ys ∧ PrsB D H xs ys b ∧ (a = c → b = true)
theorem mon_tupB {K : Frag} (hD : MonB D) : MonB (DTupB K D) := fun x y b H H' e d => by
  obtain ⟨a, c, xs, ys, hx, hy, h1, h2, p, q⟩ := d
  exact ⟨a, c, xs, ys, hx, hy, e.tup h1, e.tup h2, p.mon hD e, q⟩
theorem prs_end {H : Hp} {xs ys : List V} {b : Bool} {i : Nat} (hi : i = min xs.length ys.length) (p : PrsB D H (xs.drop i) (ys.drop i) b) : b = (xs.length == ys.length) := by
  have h : (xs.drop i).length = 0 ∨ (ys.drop i).length = 0 := by
    rw [List.length_drop, List.length_drop]
    omega
  have l1 : (xs.drop i).length = xs.length - i := List.length_drop ..
  have l2 : (ys.drop i).length = ys.length - i := List.length_drop ..
  cases hx : xs.drop i with
  | nil =>
    cases hy : ys.drop i with
    | nil =>
      rw [hx, hy] at p
      rw [hx] at l1
      rw [hy] at l2
      simp only [List.length_nil] at l1 l2
      have e : xs.length = ys.length := by omega
      cases p
      rw [e]
      simp
    | cons y r =>
      rw [hx, hy] at p
      rw [hx] at l1
      rw [hy] at l2
      simp only [List.length_nil, List.length_cons] at l1 l2
      have e : xs.length ≠ ys.length := by omega
      cases p
      simp [e]
  | cons x r =>
    cases hy : ys.drop i with
    | nil =>
      rw [hx, hy] at p
      rw [hx] at l1
      rw [hy] at l2
      simp only [List.length_nil, List.length_cons] at l1 l2
      have e : xs.length ≠ ys.length := by omega
      cases p
      simp [e]
    | cons y t =>
      rw [hx, hy] at h
      simp at h
theorem turnB (hD : MonB D) (h : EqB X n D) {A : Around} (sb : Sub X (n + 1) A) {pins : List (Addr × Obj)} {σ : L2.St} {H : Hp} {xs ys : List V} {b : Bool} {its its2 : List Value} {P : Shared → Prop} (r : Vals xs its) (r2 : Vals ys its2)
    (fin : b = false → ∀ s' H', L2.Inv X pins σ H' s' → Same H H' → P s')
    (i : Nat) (h1 : i < its.toArray.size) (h2 : i < its2.toArray.size) (s' : Shared) (l : (∃ H', L2.Inv X pins σ H' s' ∧ Same H H') ∧ PrsB D H (xs.drop i) (ys.drop i) b) :
    wpAny (model X.prog X.w) A.in1 (eqBool its.toArray[i] its2.toArray[i]) (fun r s2 => (r = true ∧ (∃ H', L2.Inv X pins σ H' s2 ∧ Same H H') ∧ PrsB D H (xs.drop (i + 1)) (ys.drop (i + 1)) b) ∨ (r = false ∧ P s2)) X.xe s' := by
  obtain ⟨⟨H1, I1, e1⟩, p⟩ := l
  have g1 : its[i]? = some its.toArray[i] := by
    have h1' : i < its.length := by simpa using h1
    rw [List.getElem?_eq_getElem h1'] <;> simp
  have g2 : its2[i]? = some its2.toArray[i] := by
    have h2' : i < its2.length := by simpa using h2
    rw [List.getElem?_eq_getElem h2'] <;> simp
  have k1 : i < xs.length := by rw [r.length]; simpa using h1
  have k2 : i < ys.length := by rw [r2.length]; simpa using h2
  obtain ⟨u, hu, ru⟩ := r.get (List.getElem?_eq_getElem k1)
  obtain ⟨v, hv, rv⟩ := r2.get (List.getElem?_eq_getElem k2)
  rw [g1] at hu
  rw [g2] at hv
  rw [Option.some.inj hu, Option.some.inj hv]
  rw [List.drop_eq_getElem_cons k1, List.drop_eq_getElem_cons k2] at p
  cases p with
  | no d =>
    refine wpAny_mono (h A.in1 pins s' σ H1 _ _ _ u v sb.in1 I1 ru rv (hD _ _ _ _ _ (Nd.of e1) d)) (fun r s2 q => ?_) fun _ _ x => x
    obtain ⟨hr, H2, I2, e2⟩ := q
    exact .inr ⟨hr, fin rfl s2 H2 I2 (e1.trans e2)⟩
  | yes d p =>
    refine wpAny_mono (h A.in1 pins s' σ H1 _ _ _ u v sb.in1 I1 ru rv (hD _ _ _ _ _ (Nd.of e1) d)) (fun r s2 q => ?_) fun _ _ x => x
    obtain ⟨hr, H2, I2, e2⟩ := q
    exact .inl ⟨hr, ⟨H2, I2, e1.trans e2⟩, p⟩
theorem rcB_tup (hD : MonB D) (h : EqB X n D) : RcB X (n + 1) (DTupB X.K D) := by
  intro A pins s σ H x y b u v sb I rx ry d
  obtain ⟨a, c, xs, ys, rfl, rfl, ha, hc, p, _⟩ := d
  cases rx
  cases ry
  obtain ⟨its, r, e, z⟩ := I.tuple ha
  obtain ⟨its2, r2, e2, z2⟩ := I.tuple hc
  refine rc_tupB sb.room.units0 (fun i s' => (∃ H', L2.Inv X pins σ H' s' ∧ Same H H') ∧ PrsB D H (xs.drop i) (ys.drop i) b) e e2 (turnB hD h sb r r2 fun hb s' H' I' e' => ⟨by rw [hb], H', I', e'⟩) (fun s' q => ?_) ⟨⟨H, I, Same.refl _⟩, p⟩
  obtain ⟨⟨H', I', e'⟩, p⟩ := q
  refine ⟨?_, H', I', e'⟩
  rw [prs_end (by rw [List.size_toArray, List.size_toArray, ← r.length, ← r2.length]) p, List.size_toArray, List.size_toArray, ← r.length, ← r2.length]
theorem eqB_tup (hD : MonB D) (h : EqB X n D) : EqB X (n + 1) (DTupB X.K D) := (rcB_tup hD h).eqB fun _ _ _ _ d => let ⟨a, c, _, _, hx, hy, _, _, _, q⟩ := d; ⟨a, c, hx, hy, q⟩
/-- != of two tuples -/
theorem op_neTup (hD : MonB D) (h : EqB X n D) (hr : Room (n + 1) X.A) : OpR X (compareOp .NotEq) (fun x y H Q => ∃ b, DTupB X.K D x y b H ∧ ∀ H', Same H H' → Q (.bl (!b)) H') := by
  intro pins s σ H x y u v Q I rx ry d
  obtain ⟨b, ⟨a, c, xs, ys, rfl, rfl, ha, hc, p, _⟩, k⟩ := d
  cases rx
  cases ry
  obtain ⟨its, r, e, z⟩ := I.tuple ha
  obtain ⟨its2, r2, e2, z2⟩ := I.tuple hc
  show wpAny _ _ (richCompare .NotEq _ _) _ _ _
  refine rc_tupN hr.units0 (fun i s' => (∃ H', L2.Inv X pins σ H' s' ∧ Same H H') ∧ PrsB D H (xs.drop i) (ys.drop i) b) e e2 (turnB hD h (⟨hr, rfl⟩ : Sub X (n + 1) X.A) r r2 fun hb s' H' I' e' => ⟨.bl true, H', I', rfl, by have := k H' e'; rw [hb] at this; exact this⟩) (fun s' q => ?_) ⟨⟨H, I, Same.refl _⟩, p⟩
  obtain ⟨⟨H', I', e'⟩, p⟩ := q
  refine ⟨.bl (!b), H', I', ?_, k H' e'⟩
  rw [prs_end (by rw [List.size_toArray, List.size_toArray, ← r.length, ← r2.length]) p, List.size_toArray, List.size_toArray, ← r.length, ← r2.length]
  rfl
/-! dicts -/
inductive EqD (D : Eqb) (H : Hp) (ls : List (Key × V)) : List (Key × V) → Bool → Prop
  | nil : EqD D H ls [] true
  | miss {k : Key} {v : V} {r : List (Key × V)} : valV ls k = none → EqD D H ls ((k, v) :: r) false
  | no {k : Key} {v y : V} {r : List (Key × V)} : valV ls k = some y → D v y false H → EqD D H ls ((k, v) :: r) false
  | yes {k : Key} {v y : V} {r : List (Key × V)} {b : Bool} : valV ls k = some y → D v y true H → EqD D H ls r b → EqD D H ls ((k, v) :: r) b
theorem EqD.mon (hD : MonB D) {H H' : Hp} (e : Nd H H') {ls ks : List (Key × V)} {b : Bool} (p : EqD D H ls ks b) : EqD D H' ls ks b := by
  induction p with
  | nil => exact .nil
  | miss h => exact .miss h
  | no h d => exact .no h (hD _ _ _ _ _ e d)
  | yes h d _ ih => exact .yes h (hD _ _ _ _ _ e d) ih
def DDct (D : Eqb) : Eqb := fun x y b H => ∃ a c ks ls, x = .ref a ∧ y = .ref c ∧ a ≠ c ∧ H a = some (.dK ks) ∧ H c = some (.dK ls) ∧ ((ks.length ≠ ls.length ∧ b = false) ∨ (ks.length = ls.length ∧ EqD D H ls ks b))
theorem rcB_dct (hD : MonB D) (h : EqB X n D) : RcB X (n + 1) (DDct D) := by
  intro A pins s σ H x y b u v sb I rx ry d
  obtain ⟨a, c, ks, ls, rfl, rfl, hac, ha, hc, p⟩ := d
  cases rx
  cases ry
  have ma : Mut (some (HO.dK ks)) := trivial
  have mc : Mut (some (HO.dK ls)) := trivial
  obtain ⟨oa, I1⟩ := I.lock ha ma
  have hc1 : (upd H a (.frz oa (.dK ks))) c = some (.dK ls) := by rw [upd_ne (Ne.symm hac)]; exact hc
  obtain ⟨oc, I2⟩ := I1.lock hc1 mc
  have ha2 : (upd (upd H a (.frz oa (.dK ks))) c (.frz oc (.dK ls))) a = some (.frz oa (.dK ks)) := by rw [upd_ne hac, upd_same]
  have hc2 : (upd (upd H a (.frz oa (.dK ks))) c (.frz oc (.dK ls))) c = some (.frz oc (.dK ls)) := upd_same
  have nd : Nd H (upd (upd H a (.frz oa (.dK ks))) c (.frz oc (.dK ls))) := fun e o he hn => by
    have n1 : e ≠ a := fun z => by rw [z, ha] at he; exact hn _ (Option.some.inj he).symm
    have n2 : e ≠ c := fun z => by rw [z, hc] at he; exact hn _ (Option.some.inj he).symm
    rw [upd_ne n2, upd_ne n1]
    exact he
  have back : ∀ s' H', L2.Inv X pins σ H' s' → Same (upd (upd H a (.frz oa (.dK ks))) c (.frz oc (.dK ls))) H' → ∃ H3, L2.Inv X pins σ H3 s' ∧ Same H H3 := fun s' H' I' e' => by
    have J1 := I'.unlock (e' _ _ hc2) (I1.nofrz hc1 mc)
    have J2 := J1.unlock (d := a) (od := oa) (u := .dK ks) (by rw [upd_ne hac]; exact e' _ _ ha2) (I.nofrz ha ma)
    refine ⟨_, J2, fun e o he => ?_⟩
    by_cases n1 : e = a
    · rw [n1] at he ⊢
      rw [upd_same]
      exact ha.symm.trans he
    · rw [upd_ne n1]
      by_cases n2 : e = c
      · rw [n2] at he ⊢
        rw [upd_same]
        exact hc.symm.trans he
      · rw [upd_ne n2]
        exact e' _ _ (by rw [upd_ne n2, upd_ne n1]; exact he)
  generalize (upd (upd H a (.frz oa (.dK ks))) c (.frz oc (.dK ls))) = H2 at *
  obtain ⟨hoa, _, ya, va, ra, da⟩ := (show ObjOk X.prog X.w H2 s.heap a (.frz oa (.dK ks)) from I2.hok a _ ha2)
  obtain ⟨hoc, _, yc, vc, rc, dc⟩ := (show ObjOk X.prog X.w H2 s.heap c (.frz oc (.dK ls)) from I2.hok c _ hc2)
  refine rc_dictB (knd := mixKind X.prog X.w) ya yc da dc hoa hoc sb.room.units0 (fun i s' => (∃ H', L2.Inv X pins σ H' s' ∧ Same H2 H') ∧ EqD D H2 ls (ks.drop i) b) (fun i s' q => ?_) (fun i k v s' hg q => ?_) (fun s' q => ?_) (fun hl => ?_) (fun hl => ?_)
  · obtain ⟨⟨H', I', e'⟩, _⟩ := q
    exact ⟨(show ObjOk X.prog X.w H' s'.heap a (.frz oa (.dK ks)) from I'.hok a _ (e' _ _ ha2)).1, (show ObjOk X.prog X.w H' s'.heap c (.frz oc (.dK ls)) from I'.hok c _ (e' _ _ hc2)).1⟩
  · obtain ⟨⟨H', I', e'⟩, q⟩ := q
    obtain ⟨x, hx, rx⟩ := KV.at' ra hg
    have hi' := (List.getElem?_eq_some_iff.mp hx).1
    rw [List.drop_eq_getElem_cons hi', (List.getElem?_eq_some_iff.mp hx).2] at q
    have hv := rc.val k
    cases q with
    | miss hn =>
      rw [hn] at hv
      exact ⟨fun _ => ⟨rfl, back s' H' I' e'⟩, fun y hy => by rw [hy] at hv; exact hv.elim⟩
    | no hy d =>
      rw [hy] at hv
      refine ⟨fun hn => by rw [hn] at hv; exact hv.elim, fun y' hy' => ?_⟩
      rw [hy'] at hv
      refine wpAny_mono (h A.in1 pins s' σ H' _ _ _ v y' sb.in1 I' rx hv (hD _ _ _ _ _ (Nd.of e') d)) (fun r s2 z => ?_) fun _ _ x => x
      obtain ⟨hr, H3, I3, e3⟩ := z
      exact .inr ⟨hr, rfl, back s2 H3 I3 (e'.trans e3)⟩
    | yes hy d q =>
      rw [hy] at hv
      refine ⟨fun hn => by rw [hn] at hv; exact hv.elim, fun y' hy' => ?_⟩
      rw [hy'] at hv
      refine wpAny_mono (h A.in1 pins s' σ H' _ _ _ v y' sb.in1 I' rx hv (hD _ _ _ _ _ (Nd.of e') d)) (fun r s2 z => ?_) fun _ _ x => x
      obtain ⟨hr, H3, I3, e3⟩ := z
      exact .inl ⟨hr, ⟨H3, I3, e'.trans e3⟩, q⟩
  · obtain ⟨⟨H', I', e'⟩, q⟩ := q
    rw [← ra.length, List.drop_length] at q
    cases q
    exact ⟨rfl, back s' H' I' e'⟩
  · rcases p with ⟨hn, _⟩ | ⟨_, q⟩
    · exact absurd (by rw [ra.length, rc.length]; exact hl) hn
    · exact ⟨⟨H2, I2, Same.refl _⟩, q.mon hD nd⟩
  · rcases p with ⟨_, hb⟩ | ⟨hl', _⟩
    · exact ⟨by rw [hb], back s H2 I2 (Same.refl _)⟩
    · exact absurd (by rw [← ra.length, ← rc.length]; exact hl') hl
/-- x == y as an expression -/
def rEqB (D : Eqb) : R2 := fun x y H Q => ∃ b, D x y b H ∧ ∀ H', Same H H' → Q (.bl b) H'
theorem op_eqB (h : RcB X n D) (hr : Room n X.A) : OpR X (compareOp .Eq) (rEqB D) := by
  intro pins s σ H x y v u Q I rx ry hq
  obtain ⟨b, d, q⟩ := hq
  show wpAny (model X.prog X.w) X.A (richCompare .Eq v u) (EP X pins σ Q) X.xe s
  refine wpAny_mono (h X.A pins s σ H x y b v u ⟨hr, rfl⟩ I rx ry d) (fun r s' z => ?_) fun _ _ x => x
  obtain ⟨hr', H', I', e⟩ := z
  subst hr'
  exact ⟨.bl b, H', I', rfl, q H' e⟩
/-! own instances -/
def DOwn (C : Addr) (R : Eqb) : Eqb := fun x y b H => ∃ a c dx dy fs gs, x = .ref a ∧ y = .ref c ∧ H a = some (.ins C dx fs) ∧ H c = some (.ins C dy gs) ∧ R x y b H ∧ (a = c → b = true)
theorem mon_own {C : Addr} {R : Eqb} (hR : MonB R) : MonB (DOwn C R) := fun x y b H H' e d => by
  obtain ⟨a, c, dx, dy, fs, gs, hx, hy, h1, h2, r, q⟩ := d
  exact ⟨a, c, dx, dy, fs, gs, hx, hy, e _ _ h1 (fun _ z => nomatch z), e _ _ h2 (fun _ z => nomatch z), hR _ _ _ _ _ e r, q⟩
theorem rcB_own {Z : Cz} {C : Addr} {k : Nat} {ps : List Str} {sp : Sp} {R : Eqb} (cal : CalS Z CX0 k C "__eq__" ps sp) (hsp : ∀ x y b H Q, R x y b H → (∀ H', Same H H' → Q (.bl b) H') → sp [x, y] H Q E0) (z : InZ Z X := by exact ⟨rfl, rfl, rfl, rfl, rfl⟩) : RcB X k (DOwn C R) := by
  obtain ⟨f, fd, G, O, hb⟩ := cal
  have F := z.ok G
  rw [← z.K] at O hb
  intro A pins s σ H x y b u v sb I rx ry d
  obtain ⟨a, c, dx, dy, fs, gs, rfl, rfl, ha, hc', hr, _⟩ := d
  cases rx
  cases ry
  obtain ⟨mA, J, _⟩ := ins_get I.hok ha
  obtain ⟨mB, J', _⟩ := ins_get I.hok hc'
  obtain ⟨od, J, _⟩ := J.look
  obtain ⟨od', J', _⟩ := J'.look
  obtain ⟨m, hF⟩ := I.fr
  refine PySem.W.cmp_K (op := .Eq) (tb := .ref C) sb.room.units0 hF I.ok.mod.kin J J'.type (by simp [PySem.W.notFirst]) O.fn O.isf ?_
  have hs := hsp _ _ _ _ (fun v H' => v = .bl b ∧ Same H H') hr fun H' e => ⟨rfl, e⟩
  have e0 : Env0 X.prog X.w X.K X.mg X.base A X.stack s H := by
    have e := I.env0
    exact ⟨by rw [sb.fr]; exact e.frames, e.mod, e.bs, e.bsz, e.funs, e.frf, e.hok, e.bare⟩
  have hl := F.len _ _ _ _ hs
  have r2 : Vals [V.ref a, V.ref c] [Value.ref a, Value.ref c] := .cons rfl (.cons rfl .nil)
  refine wpAny_call (codeAny_mono (F.run A X.stack s H ⟨[.ref a, .ref c], []⟩ [.ref a, .ref c] [.ref a, .ref c] _ E0 sb.room e0 (by
    have := hb s [.ref a, .ref c] I.kIn (by simpa using hl)
    simpa using this) r2 hs) fun r s' hq => ?_)
  cases r with
  | error e => exact (pass0 (X := X)) pins σ H s e s' I hq
  | ok fl =>
    cases fl with
    | ret w =>
      obtain ⟨z, H', I', rz, ez, ex⟩ := I.after hq
      subst ez
      cases rz
      exact ⟨rfl, H', I', ex⟩
    | next => exact False.elim hq
    | brk => exact False.elim hq
    | cont => exact False.elim hq
theorem eqB_own {Z : Cz} {C : Addr} {k : Nat} {ps : List Str} {sp : Sp} {R : Eqb} (cal : CalS Z CX0 k C "__eq__" ps sp) (hsp : ∀ x y b H Q, R x y b H → (∀ H', Same H H' → Q (.bl b) H') → sp [x, y] H Q E0) (z : InZ Z X := by exact ⟨rfl, rfl, rfl, rfl, rfl⟩) : EqB X k (DOwn C R) :=
  (rcB_own cal hsp z).eqB fun _ _ _ _ d => let ⟨a, c, _, _, _, _, hx, hy, _, _, _, q⟩ := d; ⟨a, c, hx, hy, q⟩
end
end Ps

/-! Shares in lowest terms, and their == as a relation. -/
namespace Ps
open PySem PySem.Spec PyProof.Rows PySem.W L2

/-- lowest terms -/
structure Lw (q : Int × Int) : Prop where
  pos : 0 < q.2
  low : low q.1 q.2 = q
theorem Lw.of {t u : Int} (hu : u ≠ 0) : Lw (Ps.low t u) := ⟨low_pos hu, low_low hu⟩
theorem Lw.int (i : Int) : Lw (i, 1) := ⟨by show (0 : Int) < 1; decide, low_one i⟩
theorem gAdd_zero {q : Int × Int} (h : Lw q) : gAdd (Ps.low 0 1) q = q := by
  rw [low_one]
  unfold gAdd
  have : Ps.low (0 * q.2 + q.1 * 1) (1 * q.2) = Ps.low q.1 q.2 := by congr 1 <;> omega
  exact this.trans h.low
theorem gMin_eq {q r : Int × Int} (hq : Lw q) (hr : Lw r) : gMin q r = 0 ↔ q = r := by
  constructor
  · intro h
    unfold gMin at h
    have e : q.1 * r.2 = r.1 * q.2 := by omega
    have hq0 := hq.pos
    have hr0 := hr.pos
    have e1 : low (r.2 * q.1) (r.2 * q.2) = low q.1 q.2 := low_scale _ _ _ (by omega) (by omega)
    have e2 : low (q.2 * r.1) (q.2 * r.2) = low r.1 r.2 := low_scale _ _ _ (by omega) (by omega)
    have e3 : r.2 * q.1 = q.2 * r.1 := by rw [Int.mul_comm, e, Int.mul_comm]
    have e4 : r.2 * q.2 = q.2 * r.2 := Int.mul_comm ..
    rw [e3, e4, e2] at e1
    rw [← hq.low, ← hr.low, ← e1]
  · rintro rfl
    unfold gMin
    omega
theorem min_zero (q : Int × Int) : gMin q (0, 1) = q.1 := by unfold gMin; omega
theorem sz_zero : Sz 4000 (0, 1) := ⟨by decide, by decide, by decide⟩
def shR (C : Addr) : Eqb := fun x y b H => ∃ q r, Sh C H x q ∧ Sh C H y r ∧ Sz 4000 q ∧ Sz 4000 r ∧ b = decide (gMin q r = 0)
theorem Sh.nd {C : Addr} {H H' : Hp} {v : V} {q : Int × Int} (e : Nd H H') (h : Sh C H v q) : Sh C H' v q := by
  obtain ⟨a, dx, h1, h2⟩ := h
  exact ⟨a, dx, h1, e _ _ h2 (fun _ z => nomatch z)⟩
theorem mon_shR {C : Addr} : MonB (shR C) := fun x y b H H' e d => by
  obtain ⟨q, r, h1, h2, h3⟩ := d
  exact ⟨q, r, h1.nd e, h2.nd e, h3⟩
theorem Sh.inj {C : Addr} {H : Hp} {v : V} {q r : Int × Int} (h1 : Sh C H v q) (h2 : Sh C H v r) : q = r := by
  obtain ⟨a, dx, rfl, h1⟩ := h1
  obtain ⟨b, dy, e, h2⟩ := h2
  cases e
  rw [h1] at h2
  have h3 := HO.ins.inj (Option.some.inj h2)
  have h4 := h3.2.2
  unfold shF at h4
  simp only [List.cons.injEq, Prod.mk.injEq, V.int.injEq, true_and, and_true] at h4
  exact Prod.ext h4.1 h4.2
theorem own_sh {C : Addr} {H : Hp} {x y : V} {q r : Int × Int} (h1 : Sh C H x q) (h2 : Sh C H y r) (z1 : Sz 4000 q) (z2 : Sz 4000 r) : DOwn C (shR C) x y (decide (gMin q r = 0)) H := by
  have h1' := h1
  have h2' := h2
  obtain ⟨a, dx, rfl, ha⟩ := h1'
  obtain ⟨c, dy, rfl, hc⟩ := h2'
  refine ⟨a, c, dx, dy, _, _, rfl, rfl, ha, hc, ⟨q, r, h1, h2, z1, z2, rfl⟩, fun z => ?_⟩
  subst z
  rw [h1.inj h2]
  exact decide_eq_true (by unfold gMin; omega)
theorem sh_sp {K : Frag} {C : Addr} : ∀ x y b H Q, shR C x y b H → (∀ H', Same H H' → Q (.bl b) H') → spShEq K C [x, y] H Q E0 := by
  rintro x y b H Q ⟨q, r, h1, h2, z1, z2, rfl⟩ k
  exact ⟨x, y, q, rfl, h1, .inl ⟨r, .inl h2, z1, z2, k⟩⟩
end Ps

/-! Prices: their parts, their making. -/
namespace Ps
open PySem PySem.Spec PyProof.Rows PySem.W L2 LamX

/-- what stands at the top, as far as prices go -/
structure PrB (Z : Cz) : Prop extends WdT Z where
  tuple : Z.mg "tuple" = none
  dict : Z.mg "dict" = none
  mkd : ∃ t, Z.mg "MOST_KINDS" = some (.int 6 t)
/-- the shares' own methods that prices use -/
structure ShP (Z : Cz) (C : Addr) : Prop where
  lt : CalS Z CX0 6 C "__lt__" ["self", "other"] (spOrd C fun i => decide (i < 0))
  gt : CalS Z CX0 6 C "__gt__" ["self", "other"] (spOrd C fun i => decide (0 < i))
  add : CAdd Z C
  na : NumF Z.K C "add"
  new1 : CShare1 Z C
  isnum : Cal Z CX0 2 "is_number" ["value"] [] (spIsNum Z.K C)
/-- a number of bounded size, under above 0 -/
structure Qb (q : Int × Int) : Prop where
  p : 0 < q.2
  z : Sz 200 q
/-- the number that v is, or none -/
inductive NumV (K : Frag) (C : Addr) (H : Hp) : V → Option (Int × Int) → Prop
  | num {v : V} {q : Int × Int} (h : Nb C H v q) (b : Qb q) : NumV K C H v (some q)
  | odd {v : V} (h : NotNum K C H v) : NumV K C H v none
def okPx : Option (Int × Int) → Bool
  | some q => decide (0 < q.1)
  | none => false
def okMk : Option (Int × Int) → Bool
  | some q => decide (0 ≤ q.1)
  | none => false
inductive PairV (K : Frag) (C : Addr) (H : Hp) : V → Bool → Prop
  | odd {v : V} {t : Value} (ty : TyX K H v t) (k : kitOne K t (.type "tuple") = some false) : PairV K C H v false
  | len {a : Addr} {xs : List V} (h : H a = some (.tup xs)) (hl : xs.length ≠ 2) : PairV K C H (.ref a) false
  | two {a : Addr} {x y : V} {o1 o2 : Option (Int × Int)} (h : H a = some (.tup [x, y])) (h1 : NumV K C H x o1) (h2 : NumV K C H y o2) : PairV K C H (.ref a) (okPx o1 && okPx o2)
def isWK : Key → Bool
  | .inr z => isW z
  | .inl _ => false
/-- an entry that is right, or not -/
inductive EntV (K : Frag) (C : Addr) (H : Hp) : Key → V → Bool → Prop
  | noW {k : Key} {v : V} (h : isWK k = false) (hz : ∀ z, k = .inr z → z.length ≤ sizeLine) : EntV K C H k v false
  | w {z : Str} {v : V} {b : Bool} (h : isW z = true) (p : PairV K C H v b) : EntV K C H (.inr z) v b
inductive KindsV (K : Frag) (C : Addr) (H : Hp) : V → Bool → Prop
  | odd {v : V} {t : Value} (ty : TyX K H v t) (k : kitOne K t (.type "dict") = some false) : KindsV K C H v false
  | len {d : Addr} {kvs : List (Key × V)} (h : H d = some (.dK kvs)) (hl : kvs.length = 0 ∨ 6 < kvs.length) : KindsV K C H (.ref d) false
  | kds {d : Addr} {kvs : List (Key × V)} {bs : List Bool} (h : H d = some (.dK kvs)) (h1 : 1 ≤ kvs.length) (h6 : kvs.length ≤ 6) (hb : bs.length = kvs.length) (nd : (kvs.map (·.1)).Nodup)
      (al : ∀ (n : Nat) k v b, kvs[n]? = some (k, v) → bs[n]? = some b → EntV K C H k v b) : KindsV K C H (.ref d) (bs.all id)
section
variable {K : Frag} {C : Addr} {H H' : Hp}
theorem Sh.fz {v : V} {q : Int × Int} (f : Fz H H') (h : Sh C H v q) : Sh C H' v q := let ⟨a, dx, e, h⟩ := h; ⟨a, dx, e, f.at h⟩
theorem Nb.fz {v : V} {q : Int × Int} (f : Fz H H') (h : Nb C H v q) : Nb C H' v q := h.elim (fun h => .inl (h.fz f)) .inr
theorem NotNum.fz {v : V} (f : Fz H H') (h : NotNum K C H v) : NotNum K C H' v := let ⟨t, ty, k⟩ := h; ⟨t, f.ty ty, k⟩
theorem NumV.fz {v : V} {o : Option (Int × Int)} (f : Fz H H') (h : NumV K C H v o) : NumV K C H' v o := by
  cases h with
  | num h b => exact .num (h.fz f) b
  | odd h => exact .odd (h.fz f)
theorem PairV.fz {v : V} {b : Bool} (f : Fz H H') (h : PairV K C H v b) : PairV K C H' v b := by
  cases h with
  | odd ty k => exact .odd (f.ty ty) k
  | len h hl => exact .len (f.at h) hl
  | two h h1 h2 => exact .two (f.at h) (h1.fz f) (h2.fz f)
theorem valV_nd {kvs : List (Key × V)} (nd : (kvs.map (·.1)).Nodup) {n : Nat} {k : Key} {v : V} (h : kvs[n]? = some (k, v)) : valV kvs k = some v := by
  induction kvs generalizing n with
  | nil => cases h
  | cons kv r ih =>
    rw [List.map_cons, List.nodup_cons] at nd
    cases n with
    | zero =>
      cases h
      exact valV_pos rfl
    | succ n =>
      have h' : r[n]? = some (k, v) := h
      have hne : ¬ kv.1 = k := fun z => nd.1 (by rw [z]; exact List.mem_map.mpr ⟨(k, v), List.mem_of_getElem? h', rfl⟩)
      rw [valV_neg hne]
      exact ih nd.2 h'
end
def spIsPair (K : Frag) (C : Addr) : Sp := fun vs H Q _ => ∃ v b, vs = [v] ∧ PairV K C H v b ∧ ∀ H', Same H H' → Q (.bl b) H'
def spKinds (K : Frag) (C : Addr) : Sp := fun vs H Q _ => ∃ v b, vs = [v] ∧ KindsV K C H v b ∧ ∀ H', Same H H' → Q (.bl b) H'
theorem Sz.up' {m n : Nat} {q : Int × Int} (h : Sz m q) (hm : m ≤ n) : Sz n q := ⟨h.ne, lt_up h.t hm, lt_up h.u hm⟩
/-- numbers in lowest terms, 0 or more -/
structure Qn (q : Int × Int) : Prop extends Lw q where
  z : Sz 200 q
  n : 0 ≤ q.1
theorem Qn.toQb {q : Int × Int} (h : Qn q) : Qb q := ⟨h.pos, h.z⟩
theorem isW_len' {z : Str} (h : isW z = true) : z.length ≤ sizeLine := by
  unfold isW at h
  have h1 := ((Bool.and_eq_true _ _).mp h).1
  exact Nat.le_trans (of_decide_eq_true h1).2 (by decide)
/-- Share(0) + w: what its reading asks -/
theorem sum0 {Z : Cz} {C : Addr} {w x : V} {q : Int × Int} {H1 : Hp} {Q1 : VK} (hw : Nb C H1 w q) (hq : Qn q) (kk : ∀ w' H', Same H1 H' → Sh C H' w' q → Q1 w' H') (hx : Sh C H1 x (Ps.low 0 1)) : rNum C (spBin C 4000 gAdd) E0 x w H1 Q1 := by
  refine ⟨hx.ins, hw.num, x, w, _, q, rfl, hx, hw, ⟨by decide +kernel, by decide +kernel, by decide +kernel⟩, hq.z.up' (by decide), fun w' H' e hw' => kk w' H' e ?_⟩
  rw [gAdd_zero hq.toLw] at hw'
  exact hw'
def spSharesOf (C : Addr) : Sp := fun vs H Q _ => ∃ t x y q r, vs = [.ref t] ∧ H t = some (.tup [x, y]) ∧ Nb C H x q ∧ Nb C H y r ∧ Qn q ∧ Qn r ∧
  ∀ p a b H', Same H H' → H p = none → H' p = some (.tup [a, b]) → Sh C H' a q → Sh C H' b r → Q (.ref p) H'
def spMakeP (K : Frag) (C CB : Addr) : Sp := fun vs H Q E => ∃ v o, vs = [v] ∧ NumV K C H v o ∧ ((okMk o = false ∧ Rz CB "value" v H E) ∨ ∃ q, o = some q ∧ Qn q ∧ ∀ v' H', Same H H' → Sh C H' v' q → Q v' H')
section
variable {Z : Cz} {f C CB PB fB : Addr} {fd : FuncData}
theorem ok_is_pair (F : Fun Z.K "is_pair" "is_pair" s_is_pair f fd) (T : ShT Z C) (B : PrB Z) (M : ShP Z C) : Z.ok CX0 7 f fd ["value"] (spIsPair Z.K C) := by
  refine F.ok sc_is_pair (fun vs H Q E h => ?_) (fun cdv A outer s H vs Q E hr h => ?_)
  · obtain ⟨v, b, rfl, _⟩ := h
    rfl
  · obtain ⟨v, b, rfl, h, k⟩ := h
    refine ⟨_, (pss_cons (ps_if (PW.pt (pw_or (pt_not (pt_val (pe_callB call_isi (by rfl) T.isi (by decide +kernel) (pa_cons (pv 0) (pa_cons (pe_ty "tuple" (by rfl) B.tuple (by decide +kernel)) pa_nil))))) (pw_or1 (pt_cmpR op_ne (pe_callB call_len_seq (by rfl) B.len PySem.boot_len (pa_cons (pv 0) pa_nil)) pe_int (nomark _)))))
      (pss_one (ps_ret pe_bl))
      pss_nil)
      (pss_one (ps_ret (pe_callB (cr_all rfl) (by rfl) B.all (by decide +kernel) (pa_cons (pe_lc (own := [("number", 1)]) (g := gName 1) (tt := tYes) (by rfl) sc_is_pair.nd (pi_tup (pv 0)) (blkOk_by (own := [("number", 1)]) (N := ["value", "number"]) (sc := defScope s_is_pair) (by decide +kernel)) (fun _ _ _ _ _ => (pg_name (i := 1) sc_is_pair.nd rfl (Or.inl rfl))) (fun _ _ _ _ _ => pts_nil) (fun _ _ _ _ _ => (pe_and (pe_cal M.isnum (hr.mono (by decide)) (by rfl) pass0 (pa_cons (pv 1) pa_nil)) (pe_one (pe_cmpR (op_both (op_cmp (op := .Gt) M.gt hr pass0) op_gt) (pv 1) pe_int (nomark _)))))) pa_nil))))), ?_⟩
    have k0 := k H (Same.refl _)
    cases h with
    | odd ty k1 => exact ⟨_, rfl, _, _, _, _, false, rfl, .ty "tuple", ty, k1, _, rfl, iteT k0⟩
    | @len a xs h hl =>
      refine ⟨_, rfl, _, _, _, _, true, rfl, .ty "tuple", .base (.tup h), kit_ty (by decide +kernel), _, rfl, iteF ?_⟩
      refine ⟨_, rfl, a, _, rfl, .inr (SqT.of h), rfl, _, rfl, ?_⟩
      rw [decide_eq_false (show ¬ V.int ((xs.length : Nat) : Int) = V.int 2 from fun z => hl (by have := V.int.inj z; omega))]
      exact iteT k0
    | @two a x y o1 o2 h h1 h2 =>
      refine ⟨_, rfl, _, _, _, _, true, rfl, .ty "tuple", .base (.tup h), kit_ty (by decide +kernel), _, rfl, iteF ?_⟩
      refine ⟨_, rfl, a, _, rfl, .inr (SqT.of h), rfl, _, rfl, iteNS rfl ?_⟩
      refine ⟨_, rfl, a, rfl, ⟨_, SqT.of h⟩, fun D hD => ?_⟩
      refine lcF hr_same (walk_tup (K := Z.K) (a := a) (xs := [x, y])) yat (ys := [V.bl (okPx o1), V.bl (okPx o2)]) rfl (by show 2 ≤ 100000; decide) hD trivial (fun H2 e2 => SqT.of (e2 _ _ h)) ?_ (fun H2 e2 hl => ?_)
      · rintro j z w H2 Qe hz hw e2 kk
        obtain ⟨o, rfl, hn⟩ : ∃ o, w = V.bl (okPx o) ∧ NumV Z.K C H z o := by
          rcases j with _ | _ | j
          · cases hz; cases hw; exact ⟨_, rfl, h1⟩
          · cases hz; cases hw; exact ⟨_, rfl, h2⟩
          · cases hz
        have hn := hn.fz (.of e2)
        have kk0 := kk H2 (Same.refl _)
        cases hn with
        | @num q hq b =>
          refine ⟨_, rfl, z, rfl, .inl ⟨⟨q, hq⟩, _, rfl, iteT ?_⟩⟩
          rcases id hq with hs | ⟨i, rfl, rfl⟩
          · refine ⟨_, rfl, .inl ⟨hs.ins, Nb.nf T (.inr ⟨0, rfl, rfl⟩), z, _, q, (0, 1), rfl, hs, .inr ⟨0, rfl, rfl⟩, b.z.up' (by decide), sz_zero, fun H' e => ?_⟩⟩
            rw [min_zero]
            exact kk H' e
          · exact ⟨_, rfl, .inr ⟨_, _, rfl, rfl, kk0⟩⟩
        | odd hq => exact ⟨_, rfl, z, rfl, .inr ⟨hq, _, rfl, iteF kk0⟩⟩
      · refine ⟨D, [okPx o1, okPx o2], rfl, SqL.of hl, ?_⟩
        have e3 : ([okPx o1, okPx o2] : List Bool).all id = (okPx o1 && okPx o2) := by simp
        rw [e3]
        exact k _ e2
theorem ok_are_kinds (F : Fun Z.K "are_kinds" "are_kinds" s_are_kinds f fd) (T : ShT Z C) (B : PrB Z) (c_is_word : Cal Z CX0 1 "is_word" ["value"] [] (spIsWord Z.K)) (c_is_pair : Cal Z CX0 7 "is_pair" ["value"] [] (spIsPair Z.K C)) : Z.ok CX0 8 f fd ["value"] (spKinds Z.K C) := by
  refine F.ok sc_are_kinds (fun vs H Q E h => ?_) (fun cdv A outer s H vs Q E hr h => ?_)
  · obtain ⟨v, b, rfl, _⟩ := h
    rfl
  · obtain ⟨v, b, rfl, h, k⟩ := h
    obtain ⟨tm, gm⟩ := B.mkd
    refine ⟨_, (pss_cons (ps_if (PW.pt (pw_or (pt_not (pt_val (pe_callB call_isi (by rfl) T.isi (by decide +kernel) (pa_cons (pv 0) (pa_cons (pe_ty "dict" (by rfl) B.dict (by decide +kernel)) pa_nil))))) (pw_or1 (pt_not (pt_chain op_le op_le pe_int (pe_callB call_lenD (by rfl) B.len PySem.boot_len (pa_cons (pv 0) pa_nil)) (pe_glob (v := .int 6) rfl gm ⟨_, rfl⟩))))))
      (pss_one (ps_ret pe_bl))
      pss_nil)
      (pss_one (ps_ret (pe_callB (cr_all rfl) (by rfl) B.all (by decide +kernel) (pa_cons (pe_lock (pe_lc (own := [("word", 1)]) (g := gName 1) (tt := tYes) (by rfl) sc_are_kinds.nd (pi_keys (pv 0)) (blkOk_by (own := [("word", 1)]) (N := ["value", "word"]) (sc := defScope s_are_kinds) (by decide +kernel)) (fun _ _ _ _ _ => (pg_name (i := 1) sc_are_kinds.nd rfl (Or.inl rfl))) (fun _ _ _ _ _ => pts_nil) (fun _ _ _ _ _ => (pe_and (pe_cal c_is_word (hr.mono (by decide)) (by rfl) pass0 (pa_cons (pv 1) pa_nil)) (pe_one (pe_cal c_is_pair (hr.mono (by decide)) (by rfl) pass0 (pa_cons (pe_dget (hu_of hr) (pv 0) (pv 1) (fun _ _ => rfl)) pa_nil))))))) pa_nil))))), ?_⟩
    have k0 := k H (Same.refl _)
    cases h with
    | odd ty k1 => exact ⟨_, rfl, _, _, _, _, false, rfl, .ty "dict", ty, k1, _, rfl, iteT k0⟩
    | @len d kvs h hl =>
      refine ⟨_, rfl, _, _, _, _, true, rfl, .ty "dict", .base (.dK h), kit_ty (by decide +kernel), _, rfl, iteF ?_⟩
      refine ⟨_, rfl, d, kvs, rfl, h, _, _, rfl, rfl, _, rfl, ?_⟩
      rcases hl with hl | hl
      · rw [decide_eq_false (show ¬ (1 : Int) ≤ ((kvs.length : Nat) : Int) by omega)]
        exact iteF ⟨_, rfl, iteT k0⟩
      · rw [decide_eq_true (show (1 : Int) ≤ ((kvs.length : Nat) : Int) by omega)]
        refine iteT ⟨_, _, rfl, rfl, _, rfl, ?_⟩
        rw [decide_eq_false (show ¬ ((kvs.length : Nat) : Int) ≤ 6 by omega)]
        exact iteT k0
    | @kds d kvs bs h h1 h6 hb nd al =>
      refine ⟨_, rfl, _, _, _, _, true, rfl, .ty "dict", .base (.dK h), kit_ty (by decide +kernel), _, rfl, iteF ?_⟩
      refine ⟨_, rfl, d, kvs, rfl, h, _, _, rfl, rfl, _, rfl, ?_⟩
      rw [decide_eq_true (show (1 : Int) ≤ ((kvs.length : Nat) : Int) by omega)]
      refine iteT ⟨_, _, rfl, rfl, _, rfl, ?_⟩
      rw [decide_eq_true (show ((kvs.length : Nat) : Int) ≤ 6 by omega)]
      refine iteF ?_
      refine lkF (bs.map V.bl) rfl h (by rw [List.length_map, hb]) (by omega) ?_ ?_
      · rintro n ky v y H2 Qe hk hy f2 ⟨od, hfz⟩ kk
        rw [List.getElem?_map] at hy
        cases hbn : bs[n]? with
        | none => rw [hbn] at hy; cases hy
        | some b =>
          rw [hbn] at hy
          cases hy
          have ent := al n ky v b hk hbn
          cases ent with
          | noW hw hz =>
            cases ky with
            | inl i => exact ⟨_, rfl, _, false, rfl, .odd (.base (.int i)) (kit_ty (by decide +kernel)), fun H3 e3 => ⟨_, rfl, iteF (kk H3 e3)⟩⟩
            | inr z => exact ⟨_, rfl, _, _, rfl, .str z (hz z rfl), fun H3 e3 => ⟨_, rfl, by
                have hw' : isW z = false := hw
                rw [hw']
                exact iteF (kk H3 e3)⟩⟩
          | @w z v b hw p =>
            refine ⟨_, rfl, _, _, rfl, .str z (isW_len' hw), fun H3 e3 => ⟨_, rfl, ?_⟩⟩
            rw [hw]
            refine iteT ⟨_, rfl, _, rfl, d, v, rfl, .inl ⟨kvs, .inr z, .inr ⟨od, e3 _ _ hfz⟩, rfl, (valV_nd nd hk).symm⟩, v, b, rfl, p.fz (f2.same e3), fun H4 e4 => kk H4 (e3.trans e4)⟩
      · rintro D H' e' _ hD'
        exact ⟨D, bs, rfl, SqL.of hD', k H' e'⟩
theorem ok_shares_of (F : Fun Z.K "shares_of" "shares_of" s_shares_of f fd) (M : ShP Z C) : Z.ok CX0 6 f fd ["pair"] (spSharesOf C) := by
  refine F.ok sc_shares_of (fun vs H Q E h => ?_) (fun cdv A outer s H vs Q E hr h => ?_)
  · obtain ⟨t, x, y, q, r, rfl, _⟩ := h
    rfl
  · obtain ⟨t, x, y, q, r, rfl, ht, hx, hy, gq, gr, k⟩ := h
    refine ⟨_, (pss_one (ps_ret (pe_tup (pa_cons (pe_op (op_num (op := .Add) M.add M.na hr pass0) (pe_calC M.new1 (hr.mono (by decide)) (by rfl) pass0 (pa_cons pe_int pa_nil)) (pe_ix ix_tup (pv 0) pe_int (fun _ _ => rfl))) (pa_cons (pe_op (op_num (op := .Add) M.add M.na hr pass0) (pe_calC M.new1 (hr.mono (by decide)) (by rfl) pass0 (pa_cons pe_int pa_nil)) (pe_ix ix_tup (pv 0) pe_int (fun _ _ => rfl))) pa_nil))))), ?_⟩
    intro xa dx hxa hdx hne
    refine mk_shI (by decide) (by decide +kernel) hxa hdx hne fun H1 e1 z1 => ⟨rfl, ?_⟩
    refine ⟨_, rfl, t, _, _, _, rfl, rfl, SqT.of (e1 _ _ ht), rfl, ?_⟩
    refine sum0 (Z := Z) (hx.mono e1) gq (fun a H2 e2 ha => ?_) z1
    intro xb db hxb hdb hneb
    refine mk_shI (by decide) (by decide +kernel) hxb hdb hneb fun H3 e3 z3 => ⟨rfl, ?_⟩
    have e03 := e1.trans (e2.trans e3)
    refine ⟨_, rfl, t, _, _, _, rfl, rfl, SqT.of (e03 _ _ ht), rfl, ?_⟩
    refine sum0 (Z := Z) (hy.mono e03) gr (fun b H4 e4 hb => ?_) z3
    refine ⟨(by show 2 ≤ sizeLine; decide), fun p hp => ?_⟩
    have e5 := Same.upd (o := .tup [a, b]) hp
    exact k p a b _ ((e03.trans e4).trans e5) ((e03.trans e4).free hp) upd_same ((ha.mono (e3.trans e4)).mono e5) (hb.mono e5)
theorem ok_as_make (F : Fun Z.K "as_make" "as_make" s_as_make f fd) (T : ShT Z C) (M : ShP Z C) (TB : ExT Z.K Z.mg "BadPrice" "value" "BadPrice.__init__" CB PB fB) : Z.ok (CXN Z) 7 f fd ["value"] (spMakeP Z.K C CB) := by
  refine Fun.okN F sc_as_make (fun vs H Q E h => ?_) (fun cdv A outer s H vs Q E hr h => ?_)
  · obtain ⟨v, o, rfl, _⟩ := h
    rfl
  · obtain ⟨v, o, rfl, hv, h⟩ := h
    refine ⟨_, (pss_cons (ps_if (PW.pt (pw_or (pt_not (pt_val (pe_cal M.isnum (hr.mono (by decide)) (by rfl) pass0 (pa_cons (pv 0) pa_nil)))) (pw_or1 (pt_cmpR (op_both (op_cmp (op := .Lt) M.lt hr pass0) op_lt) (pv 0) pe_int (nomark _)))))
      (pss_one (ps_raiseX TB fl_value hr (L2N.takes_of rfl rfl rfl rfl) (pa_cons (pv 0) pa_nil) rfl))
      pss_nil)
      (pss_one (ps_ret (pe_op (op_num (op := .Add) M.add M.na (hr.mono (by decide)) pass0) (pe_calC M.new1 (hr.mono (by decide)) (by rfl) pass0 (pa_cons pe_int pa_nil)) (pv 0))))), ?_⟩
    cases hv with
    | odd hv =>
      rcases h with ⟨_, k⟩ | ⟨q, z, _⟩
      · exact ⟨_, rfl, v, rfl, .inr ⟨hv, _, rfl, iteT ⟨_, rfl, _, rfl, k.now⟩⟩⟩
      · cases z
    | @num q hq b =>
      refine ⟨_, rfl, v, rfl, .inl ⟨⟨q, hq⟩, _, rfl, iteF ?_⟩⟩
      rcases h with ⟨hb, k⟩ | ⟨q', z, gq, k⟩
      · have hneg : q.1 < 0 := by
          have : decide (0 ≤ q.1) = false := hb
          have := of_decide_eq_false this
          omega
        rcases id hq with hs | ⟨i, rfl, rfl⟩
        · refine ⟨_, rfl, .inl ⟨hs.ins, Nb.nf T (.inr ⟨0, rfl, rfl⟩), v, _, q, (0, 1), rfl, hs, .inr ⟨0, rfl, rfl⟩, b.z.up' (by decide), sz_zero, fun H' e => ⟨_, rfl, ?_⟩⟩⟩
          exact iteD (fun _ => ⟨_, rfl, _, rfl, (k.later e).now⟩) (fun h => absurd (show gMin q (0, 1) < 0 by rw [min_zero]; exact hneg) h)
        · refine ⟨_, rfl, .inr ⟨_, _, rfl, rfl, _, rfl, ?_⟩⟩
          exact iteD (fun _ => ⟨_, rfl, _, rfl, k.now⟩) (fun h => absurd hneg h)
      · obtain rfl : q = q' := Option.some.inj z
        have hneg : ¬ q.1 < 0 := by have := gq.n; omega
        rcases id hq with hs | ⟨i, rfl, rfl⟩
        · refine ⟨_, rfl, .inl ⟨hs.ins, Nb.nf T (.inr ⟨0, rfl, rfl⟩), v, _, q, (0, 1), rfl, hs, .inr ⟨0, rfl, rfl⟩, b.z.up' (by decide), sz_zero, fun H' e => ⟨_, rfl, ?_⟩⟩⟩
          refine iteD (fun h => absurd (show q.1 < 0 by rw [← min_zero q]; exact h) hneg) (fun _ => ?_)
          intro xa dx hxa hdx hne
          refine mk_shI (by decide) (by decide +kernel) hxa hdx hne fun H1 e1 z1 => ⟨rfl, _, rfl, ?_⟩
          exact sum0 (Z := Z) (hq.mono (e.trans e1)) gq (fun a H2 e2 ha => k a H2 (e.trans (e1.trans e2)) ha) z1
        · refine ⟨_, rfl, .inr ⟨_, _, rfl, rfl, _, rfl, ?_⟩⟩
          refine iteD (fun h => absurd h hneg) (fun _ => ?_)
          intro xa dx hxa hdx hne
          refine mk_shI (by decide) (by decide +kernel) hxa hdx hne fun H1 e1 z1 => ⟨rfl, _, rfl, ?_⟩
          exact sum0 (Z := Z) (hq.mono e1) gq (fun a H2 e2 ha => k a H2 (e1.trans e2) ha) z1
end
end Ps

/-! Dict comprehensions: keys known before, values told by a relation. -/
namespace Ps
open PySem PySem.Spec PyProof.Rows PySem.W L2 LamX

theorem putK_end {kvs : List (Key × V)} {k : Key} {v : V} (h : k ∉ kvs.map (·.1)) : putK kvs k v = kvs ++ [(k, v)] := by
  refine putK_new v ?_
  cases e : valV kvs k with
  | none => rfl
  | some y => exact absurd (valV_in e) h
theorem dcR {J : It} {n : Nat} {Gd : Hp → Prop} {Y : Nat → Hp → V → Hp → Prop} {P : Nat → V → Prop} {tk tv : TE} {i : Nat} {σ : L2.St} {H1 : Hp} {D : Addr} {Qd : Hp → Prop} (w : Walk J n Gd Y) (hy : ∀ i H x H', Y i H x H' → H' = H ∧ P i x)
    {ks : List Key} {β : Type} {bs : List β} (R : V → β → Hp → Prop) (hk : ks.length = n) (hb : bs.length = n) (nd : ks.Nodup) (hz : n ≤ 100000) (hD : H1 D = none) (hGd : ∀ H2, Same H1 H2 → Gd H2)
    (stab : ∀ y b H2 H3, R y b H2 → Nd H2 H3 → R y b H3)
    (step : ∀ (j : Nat) x k b H2 (Qe : V → V → Hp → Prop), P j x → ks[j]? = some k → bs[j]? = some b → Same H1 H2 → (∀ z H5, Same H2 H5 → R z b H5 → Qe (kV k) z H5) → tk ((wipe σ [i]).set i (some x)) H2 fun y H4 => tv ((wipe σ [i]).set i (some x)) H4 fun z H5 => Qe y z H5)
    (fin : ∀ H2 zs, Same H1 H2 → H2 D = some (.dK (ks.zip zs)) → zs.length = n → Al (fun z b => R z b H2) zs bs → Qd H2) :
    ∃ W : Nat → Nat → Hp → Prop, (∃ m, W 0 m (upd H1 D (.dK []))) ∧ ∀ k m H, W k m H →
      (J.stop k H ∧ Qd H) ∨ (J.go k H ∧ ∃ Nx : Hp → Prop, (∀ H', Nx H' → ∃ m', m' < m ∧ W (k + 1) m' H') ∧ ∀ x H', J.yld k H x H' → gName i x (wipe σ [i]) H' fun σ2 H2 => wipe σ2 [i] = wipe σ [i] ∧ tYes σ2 H2 fun b H3 =>
        if b = true then tk σ2 H3 fun y H4 => tv σ2 H4 fun z H5 => ∃ kvs k, y = kV k ∧ H5 D = some (.dK kvs) ∧ kvs.length < sizeLine ∧ Nx (upd H5 D (.dK (putK kvs k z))) else Nx H3) := by
  refine ⟨fun j m H => m = n - j ∧ j ≤ n ∧ Same H1 H ∧ ∃ zs, zs.length = j ∧ H D = some (.dK ((ks.take j).zip zs)) ∧ Al (fun z b => R z b H) zs (bs.take j), ⟨n, by simp, Nat.zero_le _, Same.upd hD, [], rfl, upd_same, Al.nil⟩, ?_⟩
  rintro j m H ⟨rfl, hj, e, zs, hl, hDz, al⟩
  have q := hGd H e
  by_cases hlt : j < n
  · refine .inr ⟨w.goes j H hlt q, fun H' => j + 1 ≤ n ∧ Same H1 H' ∧ ∃ zs, zs.length = j + 1 ∧ H' D = some (.dK ((ks.take (j + 1)).zip zs)) ∧ Al (fun z b => R z b H') zs (bs.take (j + 1)), fun H' p => ⟨n - (j + 1), by omega, rfl, p.1, p.2⟩, fun x H' y => ?_⟩
    obtain ⟨rfl, px⟩ := hy j H x H' (w.yields j H x H' hlt q y)
    have hw : wipe ((wipe σ [i]).set i (some x)) [i] = wipe σ [i] := by
      show (((σ.set i none).set i _).set i none) = σ.set i none
      rw [List.set_set, List.set_set]
    refine ⟨hw, ?_⟩
    have hjk : j < ks.length := by omega
    have hjb : j < bs.length := by omega
    refine step j x ks[j] bs[j] _ _ px (List.getElem?_eq_getElem hjk) (List.getElem?_eq_getElem hjb) e fun z H5 e5 r5 => ?_
    have hD5 := e5 _ _ hDz
    have hmem : ks[j] ∉ ((ks.take j).zip zs).map (·.1) := fun hm => by
      obtain ⟨⟨a, b⟩, hab, rfl⟩ := List.mem_map.mp hm
      have h1 := (List.of_mem_zip hab).1
      obtain ⟨i', hi', hi2⟩ := List.mem_take_iff_getElem.mp h1
      have := (List.getElem_inj nd).mp hi2
      omega
    have nx : Nd H5 (upd H5 D (.dK (putK ((ks.take j).zip zs) ks[j] z))) := fun c o hc hn => by
      rw [upd_ne fun q => hn _ (by rw [q, hD5] at hc; exact (Option.some.inj hc).symm)]
      exact hc
    refine ⟨_, ks[j], rfl, hD5, ?_, hlt, fun c o hc => ?_, zs ++ [z], by simp [hl], ?_, ?_⟩
    · rw [List.length_zip, List.length_take]
      exact Nat.lt_of_le_of_lt (show min (min j ks.length) zs.length ≤ 100000 by omega) (by decide)
    · rw [upd_ne (ne_of_none hc hD)]
      exact e5 _ _ (e _ _ hc)
    · rw [upd_same, putK_end hmem, List.take_succ, List.getElem?_eq_getElem hjk]
      congr 2
      show List.zip (ks.take j) zs ++ [(ks[j], z)] = List.zip (ks.take j ++ [ks[j]]) (zs ++ [z])
      rw [List.zip_append (by rw [List.length_take, hl]; omega)]
      rfl
    · rw [List.take_succ, List.getElem?_eq_getElem hjb]
      exact Al.snoc (al.imp fun y b r => stab y b _ _ (stab y b _ _ r (Nd.of e5)) nx) (stab z _ _ _ r5 nx)
  · have ej : j = n := by omega
    subst ej
    rw [← hb, List.take_length] at al
    rw [← hk, List.take_length] at hDz
    exact .inl ⟨w.stops H q, fin H zs e hDz hl al⟩
end Ps

/-! Prices: their making. -/
namespace Ps
open PySem PySem.Spec PyProof.Rows PySem.W L2 LamX

abbrev Q2 := (Int × Int) × (Int × Int)
/-- prices, as shares -/
structure PrS where
  md : Int × Int
  gn : Int × Int
  ks : List (Str × Q2)
/-- two shares at a tuple -/
def ShPr (C : Addr) (H : Hp) (v : V) (x : Q2) : Prop := ∃ t a b, v = .ref t ∧ H t = some (.tup [a, b]) ∧ Sh C H a x.1 ∧ Sh C H b x.2
def KdAt (C : Addr) (H : Hp) (kvs : List (Key × V)) (ks : List (Str × Q2)) : Prop := kvs.length = ks.length ∧ ∀ (i : Nat) (kv : Key × V) (x : Str × Q2), kvs[i]? = some kv → ks[i]? = some x → kv.1 = .inr x.1 ∧ ShPr C H kv.2 x.2
def prF (a b : V) (d : Addr) : List (Str × V) := [("own_make", a), ("own_general_make", b), ("pairs", .ref d)]
def PrAtS (C CP : Addr) (H : Hp) (v : V) (P : PrS) : Prop := ∃ x dx a b d kvs, v = .ref x ∧ H x = some (.ins CP dx (prF a b d)) ∧ Sh C H a P.md ∧ Sh C H b P.gn ∧ H d = some (.dK kvs) ∧ KdAt C H kvs P.ks
/-- kinds as they are given -/
def NbPr (C : Addr) (H : Hp) (v : V) (x : Q2) : Prop := ∃ t a b, v = .ref t ∧ H t = some (.tup [a, b]) ∧ Nb C H a x.1 ∧ Nb C H b x.2
def KnAt (C : Addr) (H : Hp) (d : Addr) (ks : List (Str × Q2)) : Prop := ∃ kvs, H d = some (.dK kvs) ∧ kvs.length = ks.length ∧ ∀ (i : Nat) (kv : Key × V) (x : Str × Q2), kvs[i]? = some kv → ks[i]? = some x → kv.1 = .inr x.1 ∧ NbPr C H kv.2 x.2
structure KnG (ks : List (Str × Q2)) : Prop where
  l1 : 1 ≤ ks.length
  l6 : ks.length ≤ 6
  nd : (ks.map (·.1)).Nodup
  w : ∀ x ∈ ks, isW x.1 = true
  q : ∀ x ∈ ks, (Qn x.2.1 ∧ 0 < x.2.1.1) ∧ (Qn x.2.2 ∧ 0 < x.2.2.1)
/-- prices that are right -/
structure PrG' (P : PrS) : Prop where
  md : Qn P.md
  gn : Qn P.gn
  ks : KnG P.ks
def leW (a b : Str) : Bool := leTx kTx (.str a) (.str b)
def srtW (ws : List Str) : List Str := ws.mergeSort leW
def srtK (ks : List (Str × Q2)) : List (Str × Q2) := ks.mergeSort fun a b => leW a.1 b.1
theorem srt_words (ws : List Str) : srt (ws.map V.str) = (srtW ws).map V.str := by
  exact (List.map_mergeSort (r := leW) (s := leTx kTx) (f := V.str) fun a _ b _ => rfl).symm
theorem srtK_words (ks : List (Str × Q2)) : (srtK ks).map (·.1) = srtW (ks.map (·.1)) := by
  exact List.map_mergeSort (r := fun a b : Str × Q2 => leW a.1 b.1) (s := leW) (f := fun x : Str × Q2 => x.1) fun a _ b _ => rfl
theorem srtK_perm (ks : List (Str × Q2)) : (srtK ks).Perm ks := List.mergeSort_perm _ _
theorem srtW_perm (ws : List Str) : (srtW ws).Perm ws := List.mergeSort_perm _ _
theorem KnG.srt {ks : List (Str × Q2)} (g : KnG ks) : KnG (srtK ks) := by
  have p := srtK_perm ks
  refine ⟨by rw [p.length_eq]; exact g.l1, by rw [p.length_eq]; exact g.l6, ?_, fun x hx => g.w x (p.mem_iff.mp hx), fun x hx => g.q x (p.mem_iff.mp hx)⟩
  exact (p.map (·.1)).nodup_iff.mpr g.nd
/-- what the arguments of Prices bring -/
def PrO (K : Frag) (C : Addr) (H : Hp) (v1 v2 v3 : V) (o : V ⊕ PrS) : Prop := (∃ o1, NumV K C H v1 o1 ∧ okMk o1 = false ∧ o = .inl v1) ∨ ∃ q1, Nb C H v1 q1 ∧ Qn q1 ∧ ((∃ o2, NumV K C H v2 o2 ∧ okMk o2 = false ∧ o = .inl v2) ∨
  ∃ q2, Nb C H v2 q2 ∧ Qn q2 ∧ ((KindsV K C H v3 false ∧ o = .inl v3) ∨ ∃ d ks, v3 = .ref d ∧ KnAt C H d ks ∧ KnG ks ∧ o = .inr ⟨q1, q2, ks⟩))
def spPricesI (K : Frag) (T : List (Addr × Str)) (C CP CB : Addr) : Sp := fun vs H Q E => ∃ x dx v1 v2 v3 o H0, vs = [.ref x, v1, v2, v3] ∧ H x = some (.ins CP dx []) ∧ Same H0 H ∧ H0 x = none ∧ Tabs T H0 ∧ PrO K C H0 v1 v2 v3 o ∧
  match o with
  | .inl z => Rz CB "value" z H0 E
  | .inr P => ∀ H' a b d kvs, Grow T H0 H' → H' x = some (.ins CP dx (prF a b d)) → Sh C H' a P.md → Sh C H' b P.gn → H0 d = none → H' d = some (.dK kvs) → KdAt C H' kvs (srtK P.ks) → Q .non H'
/-- the class of prices -/
structure PrC (Z : Cz) (CP : Addr) : Prop where
  cl : Cls Z.K CP
  nM : NoAttr Z.K CP "own_make"
  nG : NoAttr Z.K CP "own_general_make"
  nP : NoAttr Z.K CP "pairs"
  mg : Z.mg "Prices" = some (.ref CP)
  ha : findIn Z.K (.ref CP) "__class__" = some (some (.builtin "object.__class__"))
  hn : specialIn Z.K (.builtin "object.__class__") "__get__" = some (some (.builtin "getset_descriptor.__get__"))
  htk : takesIn Z.K (.builtin "object.__class__") = some true
  hm : mroIn Z.K CP (.type "object") = some true
  kCC : kitOne Z.K (.ref CP) (.ref CP) = some true
theorem Nb.nd {C : Addr} {H H' : Hp} {v : V} {q : Int × Int} (e : Nd H H') (h : Nb C H v q) : Nb C H' v q := h.elim (fun ⟨a, dx, h, k⟩ => .inl ⟨a, dx, h, e _ _ k fun _ z => nomatch z⟩) .inr
theorem ShPr.nd {C : Addr} {H H' : Hp} {v : V} {x : Q2} (e : Nd H H') (h : ShPr C H v x) : ShPr C H' v x := let ⟨t, a, b, h1, h2, h3, h4⟩ := h; ⟨t, a, b, h1, e _ _ h2 (fun _ z => nomatch z), h3.nd e, h4.nd e⟩
theorem Sh.gr {T : List (Addr × Str)} {C : Addr} {H H' : Hp} {v : V} {q : Int × Int} (g : Gr T none H H') (h : Sh C H v q) : Sh C H' v q := let ⟨a, dx, h, k⟩ := h; ⟨a, dx, h, g.at k⟩
theorem Nb.gr {T : List (Addr × Str)} {C : Addr} {H H' : Hp} {v : V} {q : Int × Int} (g : Gr T none H H') (h : Nb C H v q) : Nb C H' v q := h.elim (fun h => .inl (h.gr g)) .inr
theorem EntV.mono {K : Frag} {C : Addr} {H H' : Hp} {k : Key} {v : V} {b : Bool} (e : Same H H') (h : EntV K C H k v b) : EntV K C H' k v b := by
  cases h with
  | noW hw hz => exact .noW hw hz
  | w hw p => exact .w hw (p.fz (.of e))
/-- an object that came since, put anew -/
theorem Gr.putN {T : List (Addr × Str)} {p : Option Addr} {H H1 : Hp} {D : Addr} {u o : HO} (g : Gr T p H H1) (n : H D = none) (hD : H1 D = some u) (n1 : ∀ ps, u ≠ .tbl ps := by intro _ z; cases z) (n2 : ∀ c q, u ≠ CodeO c q := by intro _ _ z; cases z) : Gr T p H (upd H1 D o) :=
  ⟨fun b u hb h nt => by
    rw [upd_ne (ne_of_none h n)]
    exact g.x b u hb h nt, fun h => tabs_put (g.t h) hD n1 n2, fun b h => upd_free g.f h⟩
theorem KindsV.mono {K : Frag} {C : Addr} {H H' : Hp} {v : V} {b : Bool} (e : Same H H') (h : KindsV K C H v b) : KindsV K C H' v b := by
  cases h with
  | odd ty k => exact .odd (tyX_same e ty) k
  | len h hl => exact .len (e _ _ h) hl
  | kds h h1 h6 hb nd al => exact .kds (e _ _ h) h1 h6 hb nd fun n k v b x1 x2 => (al n k v b x1 x2).mono e
theorem KnAt.kinds {K : Frag} {C : Addr} {H : Hp} {d : Addr} {ks : List (Str × Q2)} (h : KnAt C H d ks) (g : KnG ks) : KindsV K C H (.ref d) true := by
  obtain ⟨kvs, hd, hl, hk⟩ := h
  have e : (List.replicate kvs.length true).all id = true := by simp
  rw [← e]
  refine .kds hd (by have := g.l1; omega) (by have := g.l6; omega) (by simp) ?_ fun n k v b h1 h2 => ?_
  · have : kvs.map (·.1) = (ks.map (·.1)).map fun w => (.inr w : Key) := by
      apply List.ext_getElem?
      intro i
      rw [List.getElem?_map, List.getElem?_map, List.getElem?_map]
      cases h1 : kvs[i]? with
      | none =>
        have := List.getElem?_eq_none_iff.mp h1
        rw [List.getElem?_eq_none_iff.mpr (show ks.length ≤ i by omega)]
        rfl
      | some kv =>
        have hi := (List.getElem?_eq_some_iff.mp h1).1
        have hi2 : i < ks.length := by omega
        rw [List.getElem?_eq_getElem hi2]
        exact congrArg some (hk i kv ks[i] h1 (List.getElem?_eq_getElem hi2)).1
    rw [this]
    exact List.Pairwise.map _ (fun a b hab z => hab (Sum.inr.inj z)) g.nd
  · have hi := (List.getElem?_eq_some_iff.mp h1).1
    have hi2 : n < ks.length := by omega
    obtain ⟨e1, t, a, c, e2, ht, ha, hc⟩ := hk n (k, v) ks[n] h1 (List.getElem?_eq_getElem hi2)
    have hm := List.getElem_mem hi2
    rw [List.getElem?_replicate, if_pos hi] at h2
    · cases h2
      have e1 : k = .inr ks[n].1 := e1
      have e2 : v = .ref t := e2
      subst e1
      subst e2
      obtain ⟨⟨g1, p1⟩, ⟨g2, p2⟩⟩ := g.q _ hm
      have q : PairV K C H (.ref t) (okPx (some ks[n].2.1) && okPx (some ks[n].2.2)) := .two ht (.num ha g1.toQb) (.num hc g2.toQb)
      have e3 : (okPx (some ks[n].2.1) && okPx (some ks[n].2.2)) = true := by
        show (decide _ && decide _) = true
        rw [decide_eq_true p1, decide_eq_true p2]
        rfl
      rw [e3] at q
      exact .w (g.w _ hm) q
theorem KnAt.get {C : Addr} {H : Hp} {d : Addr} {ks : List (Str × Q2)} (h : KnAt C H d ks) (g : KnG ks) : ∃ kvs, H d = some (.dK kvs) ∧ kvs.map (·.1) = ks.map (fun x => (.inr x.1 : Key)) ∧ ∀ x ∈ ks, ∃ v, valV kvs (.inr x.1) = some v ∧ NbPr C H v x.2 := by
  obtain ⟨kvs, hd, hl, hk⟩ := h
  have hm : kvs.map (·.1) = ks.map (fun x => (.inr x.1 : Key)) := by
    apply List.ext_getElem?
    intro i
    rw [List.getElem?_map, List.getElem?_map]
    cases h1 : kvs[i]? with
    | none =>
      have := List.getElem?_eq_none_iff.mp h1
      rw [List.getElem?_eq_none_iff.mpr (show ks.length ≤ i by omega)]
      rfl
    | some kv =>
      have hi := (List.getElem?_eq_some_iff.mp h1).1
      have hi2 : i < ks.length := by omega
      rw [List.getElem?_eq_getElem hi2]
      exact congrArg some (hk i kv ks[i] h1 (List.getElem?_eq_getElem hi2)).1
  have nd : (kvs.map (·.1)).Nodup := by
    rw [hm]
    have : (ks.map fun x => (.inr x.1 : Key)) = (ks.map (·.1)).map fun w => (.inr w : Key) := by rw [List.map_map]; rfl
    rw [this]
    exact List.Pairwise.map _ (fun a b hab z => hab (Sum.inr.inj z)) g.nd
  refine ⟨kvs, hd, hm, fun x hx => ?_⟩
  obtain ⟨i, hi⟩ := List.getElem?_of_mem hx
  have hi2 := (List.getElem?_eq_some_iff.mp hi).1
  have hi3 : i < kvs.length := by omega
  obtain ⟨e1, e2⟩ := hk i kvs[i] x (List.getElem?_eq_getElem hi3) hi
  refine ⟨kvs[i].2, valV_nd nd (n := i) ?_, e2⟩
  rw [List.getElem?_eq_getElem hi3, ← e1]
theorem ktx_w {z : Str} : KTx (.str z) (kTx (.str z)) := .inl rfl
section
variable {Z : Cz} {f C CP CB PB fB : Addr} {fd : FuncData}
theorem ok_Prices {T0 : List (Addr × Str)} (F : Fun Z.K "__init__" "Prices.__init__" s_Prices_dd_init f fd) (B : PrB Z) (D : PrC Z CP) (TB : ExT Z.K Z.mg "BadPrice" "value" "BadPrice.__init__" CB PB fB) (M : Mkr Z T0 fd.code "Prices.__init__.<locals>.<lambda>")
    (c_as_make : Cal Z (CXN Z) 7 "as_make" ["value"] [] (spMakeP Z.K C CB)) (c_are_kinds : Cal Z CX0 8 "are_kinds" ["value"] [] (spKinds Z.K C)) (c_shares_of : Cal Z CX0 6 "shares_of" ["pair"] [] (spSharesOf C)) :
    Z.ok (CXN Z) 9 f fd ["self", "make", "general_make", "kinds"] (spPricesI Z.K T0 C CP CB) := by
  refine Fun.okC F sc_Prices_dd_init (fun vs H Q E h => ?_) (fun A outer s H vs Q E hr h => ?_)
  · obtain ⟨x, dx, v1, v2, v3, o, H0, rfl, _⟩ := h
    rfl
  · obtain ⟨x, dx, v1, v2, v3, o, H0, rfl, hx, e0, hx0, hT, ho, k⟩ := h
    refine ⟨_, (pss_cons (ps_fld (pv 0) (pe_cal c_as_make (hr.mono (by decide)) (by rfl) (passN (L2N.takes_of rfl rfl rfl rfl)) (pa_cons (pv 1) pa_nil)) rfl)
      (pss_cons (ps_fld (pv 0) (pe_cal c_as_make (hr.mono (by decide)) (by rfl) (passN (L2N.takes_of rfl rfl rfl rfl)) (pa_cons (pv 2) pa_nil)) rfl)
      (pss_cons (ps_if (pt_not (pt_val (pe_cal c_are_kinds (hr.mono (by decide)) (by rfl) pass0 (pa_cons (pv 3) pa_nil))))
      (pss_one (ps_raiseX TB fl_value hr (L2N.takes_of rfl rfl rfl rfl) (pa_cons (pv 3) pa_nil) rfl))
      pss_nil)
      (pss_one (ps_fld (pv 0) (pe_dc (own := [("word", 4)]) (g := gName 4) (tt := tYes) (by rfl) sc_Prices_dd_init.nd (pi_list (pe_callBK (call_sortedStr (k := kTx) rfl B.str (hr.mono (by decide))) (by rfl) B.sorted (by decide +kernel) (pa_cons (pv 3) pa_nil) (pk_cons (pe_lamK (Z := Z) (T := T0) M (strL_by (x := "word") rfl rfl rfl (by decide) (fun _ _ _ _ _ _ => rfl) rfl rfl rfl (by decide +kernel))) pk_nil))) (blkOk_by (own := [("word", 4)]) (N := ["self", "make", "general_make", "kinds", "word"]) (sc := defScope s_Prices_dd_init) (by decide +kernel)) (fun _ _ _ _ _ => (pg_name (i := 4) sc_Prices_dd_init.nd rfl (Or.inl rfl))) (fun _ _ _ _ _ => pts_nil) (fun _ _ _ _ _ => (pv 4)) (fun _ _ _ _ _ => (pe_cal c_shares_of (hr.mono (by decide)) (by rfl) pass0 (pa_cons (pe_dget (hu_of hr) (pv 3) (pv 4) (fun _ _ => rfl)) pa_nil)))) rfl))))), ?_⟩
    have raised : ∀ {z : V} {H1 : Hp}, o = .inl z → Same H0 H1 → ∀ d, H1 d = none → E (.ref CB) (some d) (L2.upd H1 d (.xd [("value", z)])) := fun {z H1} e e1 => by
      rw [e] at k
      exact (Rz.later k e1).now
    have put : ∀ {H1 : Hp} {o1 : HO}, Same H0 H1 → Same H0 (upd H1 x o1) := fun {H1 o1} e b u h => by
      rw [upd_ne (ne_of_none h hx0)]
      exact e b u h
    rcases ho with ⟨o1, n1, b1, ho⟩ | ⟨q1, n1, g1, ho⟩
    · exact ⟨_, rfl, v1, o1, rfl, n1.fz (.of e0), .inl ⟨b1, by rw [ho] at k; exact Rz.later k e0⟩⟩
    refine ⟨_, rfl, v1, some q1, rfl, .num (n1.mono e0) g1.toQb, .inr ⟨q1, rfl, g1, fun w1 H1 e1 s1 => ?_⟩⟩
    refine ⟨_, rfl, x, CP, dx, [], rfl, e1 _ _ hx, D.cl, D.nM, (by show 0 < 1000; decide), ?_⟩
    have hx1 : (upd H1 x (.ins CP dx (putF "own_make" w1 []))) x = some (.ins CP dx [("own_make", w1)]) := upd_same
    have e01 : Same H0 (upd H1 x (.ins CP dx (putF "own_make" w1 []))) := put (e0.trans e1)
    have s1' : Sh C (upd H1 x (.ins CP dx (putF "own_make" w1 []))) w1 q1 := by
      obtain ⟨a, da, rfl, ha⟩ := s1
      refine ⟨a, da, rfl, ?_⟩
      rw [upd_ne fun z => by rw [z, e1 _ _ hx] at ha; cases ha]
      exact ha
    generalize (upd H1 x (.ins CP dx (putF "own_make" w1 []))) = H2 at hx1 e01 s1' ⊢
    rcases ho with ⟨o2, n2, b2, ho⟩ | ⟨q2, n2, g2, ho⟩
    · exact ⟨_, rfl, v2, o2, rfl, n2.fz (.of e01), .inl ⟨b2, by rw [ho] at k; exact Rz.later k e01⟩⟩
    refine ⟨_, rfl, v2, some q2, rfl, .num (n2.mono e01) g2.toQb, .inr ⟨q2, rfl, g2, fun w2 H3 e3 s2 => ?_⟩⟩
    refine ⟨_, rfl, x, CP, dx, _, rfl, e3 _ _ hx1, D.cl, D.nG, (by show 1 < 1000; decide), ?_⟩
    have hx4 : (upd H3 x (.ins CP dx (putF "own_general_make" w2 [("own_make", w1)]))) x = some (.ins CP dx [("own_make", w1), ("own_general_make", w2)]) := upd_same
    have e04 : Same H0 (upd H3 x (.ins CP dx (putF "own_general_make" w2 [("own_make", w1)]))) := put (e01.trans e3)
    have keepx : ∀ {v : V} {q : Int × Int}, Sh C H3 v q → Sh C (upd H3 x (.ins CP dx (putF "own_general_make" w2 [("own_make", w1)]))) v q := fun {v q} ⟨a, da, h, ha⟩ => ⟨a, da, h, by
      rw [upd_ne fun z => by rw [z, e3 _ _ hx1] at ha; cases ha]
      exact ha⟩
    have s14 := keepx (s1'.mono e3)
    have s24 := keepx s2
    generalize (upd H3 x (.ins CP dx (putF "own_general_make" w2 [("own_make", w1)]))) = H4 at hx4 e04 s14 s24 ⊢
    rcases ho with ⟨b3, ho⟩ | ⟨d, ks, rfl, hd, gk, ho⟩
    · exact ⟨_, rfl, v3, _, rfl, b3.mono e04, fun H5 e5 => ⟨_, rfl, iteT ⟨_, rfl, _, rfl, raised ho (e04.trans e5)⟩⟩⟩
    refine ⟨_, rfl, _, _, rfl, (hd.kinds gk).mono e04, fun H5 e5 => ⟨_, rfl, iteF ?_⟩⟩
    have e05 := e04.trans e5
    have hx5 := e5 _ _ hx4
    obtain ⟨kvs, hd0, hkeys, hget⟩ := hd.get gk
    have hi : ∀ y ∈ kvs.map (fun kv => kV kv.1), KTx y (kTx y) := fun y hy => by
      obtain ⟨kv, hkv, rfl⟩ := List.mem_map.mp hy
      have : kv.1 ∈ ks.map (fun x => (.inr x.1 : Key)) := by rw [← hkeys]; exact List.mem_map.mpr ⟨kv, hkv, rfl⟩
      obtain ⟨x', _, e'⟩ := List.mem_map.mp this
      rw [← e']
      exact ktx_w
    have hkw : kvs.map (fun kv => kV kv.1) = (ks.map (·.1)).map V.str := by
      have : kvs.map (fun kv => kV kv.1) = (kvs.map (·.1)).map kV := by rw [List.map_map]; rfl
      rw [this, hkeys, List.map_map, List.map_map]
      rfl
    refine ⟨_, rfl, hT.ext e05, fun l H6 g6 t6 kl => ⟨d, l, _, rfl, rfl, kl, .inr (.inr ⟨kvs, g6.rdK (.inl (e05 _ _ hd0)), rfl⟩), hi, fun p hp => ?_⟩⟩
    generalize hS : (kvs.map fun kv => kV kv.1).mergeSort (leTx kTx) = S
    have hS' : S = (srtW (ks.map (·.1))).map V.str := by
      rw [← hS, hkw]
      exact srt_words _
    have u7 : (upd H6 p (.lst S)) p = some (.lst S) := upd_same
    have g7 : Grow T0 H5 (upd H6 p (.lst S)) := g6.trans (.new hp)
    have hsl : S.length = ks.length := by
      rw [hS', List.length_map, (srtW_perm _).length_eq, List.length_map]
    have hp6 : (srtK ks).length = ks.length := (srtK_perm ks).length_eq
    refine ⟨p, rfl, ⟨S, SqL.of u7⟩, fun Dd hDd => ?_⟩
    generalize (upd H6 p (.lst S)) = H7 at u7 g7 hDd ⊢
    have g07 : Grow T0 H0 H7 := (Gr.of e05).trans g7
    refine dcR (walk_list (K := Z.K) (a := p) (xs := S)) yat (ks := (srtK ks).map fun x => (.inr x.1 : Key)) (bs := srtK ks) (fun y b H' => ShPr C H' y b.2) (by rw [List.length_map, hsl, hp6]) (by rw [hsl, hp6]) ?_ (by have := gk.l6; omega) hDd (fun H8 e8 => SqL.of (e8 _ _ u7)) (fun y b H8 H9 h e => h.nd e) ?_ ?_
    · have := gk.srt.nd
      have e' : ((srtK ks).map fun x => (.inr x.1 : Key)) = ((srtK ks).map (·.1)).map fun w => (.inr w : Key) := by rw [List.map_map]; rfl
      rw [e']
      exact List.Pairwise.map _ (fun a b hab z => hab (Sum.inr.inj z)) this
    · rintro j y ky b H8 Qe hy hky hb e8 kk
      rw [hS', ← srtK_words, List.getElem?_map, List.getElem?_map, hb] at hy
      rw [List.getElem?_map, hb] at hky
      cases hy
      cases hky
      have hbm : b ∈ ks := (srtK_perm ks).mem_iff.mp (List.mem_of_getElem? hb)
      obtain ⟨v, hv, t, y1, y2, rfl, ht, hy1, hy2⟩ := hget b hbm
      obtain ⟨⟨gq1, _⟩, ⟨gq2, _⟩⟩ := gk.q b hbm
      refine ⟨_, rfl, _, rfl, _, rfl, d, .ref t, rfl, .inl ⟨kvs, .inr b.1, .inl (e8 _ _ (g07.at hd0)), rfl, hv.symm⟩, t, y1, y2, b.2.1, b.2.2, rfl, e8 _ _ (g07.at ht), (hy1.gr g07).mono e8, (hy2.gr g07).mono e8, gq1, gq2, fun p' a b' H9 e9 hp' hp9 ha hb' => kk _ _ e9 ⟨p', a, b', rfl, hp9, ha, hb'⟩⟩
    · rintro H8 zs e8 hD8 hzl al
      have hx8 := e8 _ _ (g7.at hx5)
      refine ⟨_, rfl, x, CP, dx, _, rfl, hx8, D.cl, D.nP, (by show 2 < 1000; decide), ?_⟩
      have g08 : Grow T0 H0 H8 := g07.trans (.of e8)
      have kx : ∀ {y : Addr} {u : HO}, H8 y = some u → (∀ fs, u ≠ .ins CP dx fs) → (upd H8 x (.ins CP dx (putF "pairs" (.ref Dd) [("own_make", w1), ("own_general_make", w2)]))) y = some u := fun {y u} h n => by
        rw [upd_ne fun z => n _ (by rw [z, hx8] at h; exact (Option.some.inj h).symm)]
        exact h
      have kS : ∀ {v : V} {q : Int × Int}, Sh C H8 v q → Sh C (upd H8 x (.ins CP dx (putF "pairs" (.ref Dd) [("own_make", w1), ("own_general_make", w2)]))) v q := fun {v q} ⟨a, da, h, ha⟩ => by
        refine ⟨a, da, h, ?_⟩
        rw [upd_ne fun z => by rw [z, hx8] at ha; cases ha]
        exact ha
      rw [ho] at k
      refine k _ w1 w2 Dd _ (g08.putN hx0 hx8) upd_same (kS (((s14.mono e5).gr g7).mono e8)) (kS (((s24.mono e5).gr g7).mono e8)) (g07.f Dd hDd) (kx hD8 fun _ z => nomatch z) ⟨?_, fun i kv y h1 h2 => ?_⟩
      · rw [List.length_zip, List.length_map, hzl, hsl, hp6]
        omega
      · obtain ⟨z1, z2⟩ := List.getElem?_zip_eq_some.mp h1
        rw [List.getElem?_map, h2] at z1
        obtain ⟨t, a, b, e1, e2, e3, e4⟩ := al.2 i kv.2 y z2 h2
        exact ⟨(Option.some.inj z1).symm, t, a, b, e1, kx e2 (fun _ z => nomatch z), kS e3, kS e4⟩
end
end Ps

/-! == of a dict with itself. -/
namespace Ps
open PySem PySem.Spec PyProof.Rows PySem.W L2
theorem valueAt_at {κ : Type} [DecidableEq κ] : ∀ {kvs : List (κ × Value)} {i : Nat} {k : κ} {v : Value}, (kvs.map (·.1)).Nodup → kvs[i]? = some (k, v) → valueAt kvs k = some v
  | [], _, _, _, _, h => by simp at h
  | (k0, v0) :: r, 0, k, v, _, h => by
    obtain ⟨rfl, rfl⟩ := Prod.mk.inj (Option.some.inj h)
    simp [valueAt, List.find?_cons]
  | (k0, v0) :: r, i + 1, k, v, hn, h => by
    rw [List.map_cons, List.nodup_cons] at hn
    have hr : r[i]? = some (k, v) := h
    have hm : k ∈ r.map (·.1) := List.mem_map.mpr ⟨(k, v), List.mem_of_getElem? hr, rfl⟩
    have hne : ¬ k0 = k := fun z => hn.1 (z ▸ hm)
    have := valueAt_at hn.2 hr
    simp only [valueAt, List.find?_cons] at this ⊢
    rw [decide_eq_false hne]
    exact this
def DDctS : Eqb := fun x y b H => ∃ a ks, x = .ref a ∧ y = .ref a ∧ H a = some (.dK ks) ∧ b = true
theorem hits_self {A : Around} {s : Shared} {κ : Type} [DecidableEq κ] {kb : List (κ × Value)} : ∀ {l : List (κ × Value)}, (∀ p ∈ l, valueAt kb p.1 = some p.2) → KeqHits A s kb l true
  | [], _ => .nil
  | (k, v) :: r, h => by
    have := KeqHits.hit (A := A) (s := s) (h (k, v) (List.mem_cons_self ..)) (SeqAt.EqAt.same v) (hits_self fun p hp => h p (List.mem_cons_of_mem _ hp))
    simpa using this
section
variable {X : Cx} {n : Nat} {D D' : Eqb}
theorem RcB.or (h : RcB X n D) (h' : RcB X n D') : RcB X n (fun x y b H => D x y b H ∨ D' x y b H) := fun A pins s σ H x y b u v sb I rx ry d =>
  d.elim (fun d => h A pins s σ H x y b u v sb I rx ry d) fun d => h' A pins s σ H x y b u v sb I rx ry d
theorem rcB_dctS : RcB X 0 DDctS := by
  intro A pins s σ H x y b u v sb I rx ry d
  obtain ⟨a, ks, rfl, rfl, ha, rfl⟩ := d
  cases rx
  cases ry
  obtain ⟨_, ya, va, ra, da⟩ := (show ObjOk X.prog X.w H s.heap a (.dK ks) from I.hok a _ ha)
  have hnd : (va.map (·.1)).Nodup := by obtain ⟨_, _, _, _, _, _, _, _, h⟩ := da; exact h
  show wpAny _ _ (compareOp .Eq _ _) _ _ _
  refine PySem.W.keq_eq (knd := mixKind X.prog X.w) (r := true) ya ya da da sb.room.units0 (fun _ => hits_self fun p hp => ?_) ⟨by simp, H, I, Same.refl _⟩
  obtain ⟨i, hi, he⟩ := List.mem_iff_getElem.mp hp
  exact valueAt_at hnd (by rw [List.getElem?_eq_getElem hi, he])
theorem EqD.step {H : Hp} {ls r : List (Key × V)} {k : Key} {v y : V} {e b : Bool} (hy : valV ls k = some y) (d : D v y e H) (h : EqD D H ls r b) : EqD D H ls ((k, v) :: r) (e && b) := by
  cases e with
  | false => exact .no hy d
  | true => exact .yes hy d h
end
end Ps

/-! len(x) of an instance with an own __len__. -/
namespace Ps
open PySem PySem.Spec PyProof.Rows PySem.W L2

def rLenO (C : Addr) (sp : Sp) (E : XK) : List V → Hp → VK → Prop := fun xs H Q => ∃ x, xs = [x] ∧ InsC C H x ∧ sp [x] H (fun v H' => ∃ n : Nat, v = .int n ∧ n ≤ 100000 ∧ Q (.int n) H') E
theorem len_cal {Z : Cz} {X : Cx} {CX : CXT} {k : Nat} {C : Addr} {ps : List Str} {sp : Sp} {E : XK} (c : CalS Z CX k C "__len__" ps sp) (hr : Room (k + 1) X.A) (hx : Passes CX X E) (z : InZ Z X := by exact ⟨rfl, rfl, rfl, rfl, rfl⟩) : CallR X (.builtin "len") (rLenO C sp E) := by
  obtain ⟨f, fd, G, O, hb⟩ := c
  rw [← z.K] at O hb
  intro pins s σ H xs us Q I r h
  obtain ⟨x, rfl, ⟨a, dx, fs, rfl, ha⟩, h⟩ := h
  obtain ⟨u, rfl, r1⟩ := vals1 r
  cases (show u = Value.ref a from r1)
  obtain ⟨mA, J, _⟩ := ins_get I.hok ha
  obtain ⟨od, J, _⟩ := J.look
  obtain ⟨m, Fr⟩ := I.fr
  refine len_K Fr I.mod.kin J O.fn O.isf (wpAny_mono (run_fn1 (us := [.ref a]) (vs := [.ref a]) (z.ok G) hr hb hx I (.cons rfl .nil) h) (fun v s' q => ?_) fun _ _ z => z)
  obtain ⟨y, H1, I1, r1, n, rfl, hn, q⟩ := q
  obtain ⟨t, rfl⟩ := r1
  exact ⟨⟨by omega, by omega⟩, .int n, H1, I1.tok _, ⟨_, rfl⟩, q⟩
end Ps

/-! Prices: what they tell. -/
namespace Ps
open PySem PySem.Spec PyProof.Rows PySem.W L2 LamX

theorem prF_m (a b : V) (d : Addr) : (prF a b d).lookup ("own_make" : Str) = some a := rfl
theorem prF_g (a b : V) (d : Addr) : (prF a b d).lookup ("own_general_make" : Str) = some b := rfl
theorem prF_p (a b : V) (d : Addr) : (prF a b d).lookup ("pairs" : Str) = some (.ref d) := rfl
theorem prF_no (a b : V) (d : Addr) (m : Str) (h1 : (m == ("own_make" : Str)) = false) (h2 : (m == ("own_general_make" : Str)) = false) (h3 : (m == ("pairs" : Str)) = false) : (prF a b d).lookup m = none := by
  unfold prF
  rw [List.lookup_cons, h1]
  simp only
  rw [List.lookup_cons, h2]
  simp only
  rw [List.lookup_cons, h3]
  rfl
theorem ShPr.mono {C : Addr} {H H' : Hp} {v : V} {x : Q2} (e : Same H H') (h : ShPr C H v x) : ShPr C H' v x := h.nd (.of e)
theorem ShPr.gr {T : List (Addr × Str)} {C : Addr} {H H' : Hp} {v : V} {x : Q2} (g : Gr T none H H') (h : ShPr C H v x) : ShPr C H' v x := let ⟨t, a, b, h1, h2, h3, h4⟩ := h; ⟨t, a, b, h1, g.at h2, h3.gr g, h4.gr g⟩
theorem KdAt.mono {C : Addr} {H H' : Hp} {kvs : List (Key × V)} {ks : List (Str × Q2)} (e : Same H H') (h : KdAt C H kvs ks) : KdAt C H' kvs ks := ⟨h.1, fun i kv x h1 h2 => ⟨(h.2 i kv x h1 h2).1, (h.2 i kv x h1 h2).2.mono e⟩⟩
theorem KdAt.gr {T : List (Addr × Str)} {C : Addr} {H H' : Hp} {kvs : List (Key × V)} {ks : List (Str × Q2)} (g : Gr T none H H') (h : KdAt C H kvs ks) : KdAt C H' kvs ks := ⟨h.1, fun i kv x h1 h2 => ⟨(h.2 i kv x h1 h2).1, (h.2 i kv x h1 h2).2.gr g⟩⟩
theorem PrAtS.mono {C CP : Addr} {H H' : Hp} {v : V} {P : PrS} (e : Same H H') (h : PrAtS C CP H v P) : PrAtS C CP H' v P := by
  obtain ⟨x, dx, a, b, d, kvs, rfl, hx, ha, hb, hd, hk⟩ := h
  exact ⟨x, dx, a, b, d, kvs, rfl, e _ _ hx, ha.mono e, hb.mono e, e _ _ hd, hk.mono e⟩
theorem PrAtS.gr {T : List (Addr × Str)} {C CP : Addr} {H H' : Hp} {v : V} {P : PrS} (g : Gr T none H H') (h : PrAtS C CP H v P) : PrAtS C CP H' v P := by
  obtain ⟨x, dx, a, b, d, kvs, rfl, hx, ha, hb, hd, hk⟩ := h
  exact ⟨x, dx, a, b, d, kvs, rfl, g.at hx, ha.gr g, hb.gr g, g.at hd, hk.gr g⟩
theorem KdAt.keys {C : Addr} {H : Hp} {kvs : List (Key × V)} {ks : List (Str × Q2)} (h : KdAt C H kvs ks) : kvs.map (·.1) = ks.map (fun x => (.inr x.1 : Key)) := by
  apply List.ext_getElem?
  intro i
  rw [List.getElem?_map, List.getElem?_map]
  have hl := h.1
  cases h1 : kvs[i]? with
  | none =>
    have := List.getElem?_eq_none_iff.mp h1
    rw [List.getElem?_eq_none_iff.mpr (show ks.length ≤ i by omega)]
    rfl
  | some kv =>
    have hi := (List.getElem?_eq_some_iff.mp h1).1
    have hi2 : i < ks.length := by omega
    rw [List.getElem?_eq_getElem hi2]
    exact congrArg some (h.2 i kv ks[i] h1 (List.getElem?_eq_getElem hi2)).1
theorem inr_map (ws : List (Str × Q2)) : (ws.map fun x => (.inr x.1 : Key)) = (ws.map (·.1)).map fun w => (.inr w : Key) := by rw [List.map_map]; rfl
theorem KdAt.nd {C : Addr} {H : Hp} {kvs : List (Key × V)} {ks : List (Str × Q2)} (h : KdAt C H kvs ks) (g : KnG ks) : (kvs.map (·.1)).Nodup := by
  rw [h.keys, inr_map]
  exact List.Pairwise.map _ (fun a b hab z => hab (Sum.inr.inj z)) g.nd
theorem KdAt.val {C : Addr} {H : Hp} {kvs : List (Key × V)} {ks : List (Str × Q2)} (h : KdAt C H kvs ks) (g : KnG ks) {z : Str} {q : Q2} (hz : (z, q) ∈ ks) : ∃ v, valV kvs (.inr z) = some v ∧ ShPr C H v q := by
  obtain ⟨i, hi⟩ := List.getElem?_of_mem hz
  have hi2 := (List.getElem?_eq_some_iff.mp hi).1
  have hi3 : i < kvs.length := by have := h.1; omega
  obtain ⟨e1, e2⟩ := h.2 i kvs[i] (z, q) (List.getElem?_eq_getElem hi3) hi
  refine ⟨kvs[i].2, valV_nd (h.nd g) (n := i) ?_, e2⟩
  rw [List.getElem?_eq_getElem hi3]
  exact congrArg some (Prod.ext e1 rfl)
theorem KdAt.none {C : Addr} {H : Hp} {kvs : List (Key × V)} {ks : List (Str × Q2)} (h : KdAt C H kvs ks) {z : Str} (hz : z ∉ ks.map (·.1)) : valV kvs (.inr z) = none := by
  cases e : valV kvs (.inr z) with
  | none => rfl
  | some v =>
    have := valV_in e
    rw [h.keys, inr_map] at this
    obtain ⟨w, hw, e2⟩ := List.mem_map.mp this
    cases e2
    exact absurd hw hz
/-- no kind of these prices -/
def NoKd (K : Frag) (H : Hp) (P : PrS) (w : V) : Prop := (∃ z, w = .str z ∧ z.length ≤ sizeLine ∧ z ∉ P.ks.map (·.1)) ∨ ∃ t, TyX K H w t ∧ kitOne K t (.type "str") = some false
def spPrHas (K : Frag) (C CP : Addr) : Sp := fun vs H Q _ => ∃ x w P, vs = [x, w] ∧ PrAtS C CP H x P ∧ KnG P.ks ∧ ((∃ z q, w = .str z ∧ (z, q) ∈ P.ks ∧ ∀ H', Same H H' → Q (.bl true) H') ∨ (NoKd K H P w ∧ ∀ H', Same H H' → Q (.bl false) H'))
def spPrGet (K : Frag) (C CP CK : Addr) : Sp := fun vs H Q E => ∃ x w P, vs = [x, w] ∧ PrAtS C CP H x P ∧ KnG P.ks ∧ ((∃ z q, w = .str z ∧ (z, q) ∈ P.ks ∧ ∀ v H', Same H H' → ShPr C H' v q → Q v H') ∨ (NoKd K H P w ∧ Rz CK "word" w H E))
def spPrLen (C CP : Addr) : Sp := fun vs H Q _ => ∃ x P, vs = [x] ∧ PrAtS C CP H x P ∧ Q (.int (P.ks.length : Nat)) H
def spPrWords (C CP : Addr) : Sp := fun vs H Q _ => ∃ x P, vs = [x] ∧ PrAtS C CP H x P ∧ ∀ l H', Same H H' → H l = none → H' l = some (.lst ((P.ks.map (·.1)).map V.str)) → Q (.ref l) H'
def spPrMk (C CP : Addr) (g : PrS → Int × Int) : Sp := fun vs H Q _ => ∃ x P, vs = [x] ∧ PrAtS C CP H x P ∧ ∀ v, Sh C H v (g P) → Q v H
def spPrOf (K : Frag) (C CP CK : Addr) (g : PrS → Q2 → Int × Int) : Sp := fun vs H Q E => ∃ x w P, vs = [x, w] ∧ PrAtS C CP H x P ∧ PrG' P ∧ ((∃ z q, w = .str z ∧ (z, q) ∈ P.ks ∧ ∀ v H', Same H H' → Sh C H' v (g P q) → Q v H') ∨ (NoKd K H P w ∧ Rz CK "word" w H E))
def qOwn (P : PrS) (q : Q2) : Int × Int := gAdd P.md q.1
def qBest (P : PrS) (q : Q2) : Int × Int := if gMin (qOwn P q) q.2 ≤ 0 then qOwn P q else q.2
theorem fl_wordP : FlOk "word" := ⟨fun _ _ _ _ _ _ _ _ _ _ _ _ _ => rfl, fun _ _ => rfl, fun _ _ _ _ _ _ => rfl, fun _ _ _ _ _ _ => rfl, fun _ _ _ _ => rfl, fun _ _ _ _ => rfl, by decide⟩
theorem NoKd.mono {K : Frag} {H H' : Hp} {P : PrS} {w : V} (e : Same H H') (h : NoKd K H P w) : NoKd K H' P w := h.elim .inl fun ⟨t, ty, k⟩ => .inr ⟨t, tyX_same e ty, k⟩
section
variable {Z : Cz} {f C CP CK PK fK : Addr} {fd : FuncData}
theorem ok_PrHas (F : Fun Z.K "__contains__" "Prices.__contains__" s_Prices_dd_contains f fd) (D : PrC Z CP) (c_is_word : Cal Z CX0 1 "is_word" ["value"] [] (spIsWord Z.K)) : Z.ok CX0 2 f fd ["self", "word"] (spPrHas Z.K C CP) := by
  refine F.ok sc_Prices_dd_contains (fun vs H Q E h => ?_) (fun cdv A outer s H vs Q E hr h => ?_)
  · obtain ⟨x, w, P, rfl, _⟩ := h
    rfl
  · obtain ⟨x, w, P, rfl, hx, g, h⟩ := h
    obtain ⟨xa, dx, a, b, d, kvs, rfl, hx, ha, hb, hd, hk⟩ := hx
    refine ⟨_, (pss_one (ps_ret (pe_and (pe_cal c_is_word (hr.mono (by decide)) (by rfl) pass0 (pa_cons (pv 1) pa_nil)) (pe_one (pe_cmpR (op_inDct (hu_of hr)) (pv 1) (pe_fld (pv 0) rfl) (by rfl)))))), ?_⟩
    rcases h with ⟨z, q, rfl, hz, k⟩ | ⟨⟨z, rfl, hzl, hz⟩ | ⟨t, ty, hk1⟩, k⟩
    · have hw : isW z = true := g.w _ hz
      refine ⟨_, rfl, _, _, rfl, .str z (isW_len' hw), fun H1 e1 => ⟨_, rfl, ?_⟩⟩
      rw [hw]
      obtain ⟨v, hv, _⟩ := hk.val g hz
      refine iteT ⟨_, rfl, _, rfl, xa, CP, dx, _, _, rfl, e1 _ _ hx, D.cl, D.nP, prF_p a b d, d, some v, rfl, .inl ⟨kvs, .inr z, .inl (e1 _ _ hd), rfl, hv.symm⟩, k H1 e1⟩
    · refine ⟨_, rfl, _, _, rfl, .str z hzl, fun H1 e1 => ⟨_, rfl, ?_⟩⟩
      cases isW z with
      | true => exact iteT ⟨_, rfl, _, rfl, xa, CP, dx, _, _, rfl, e1 _ _ hx, D.cl, D.nP, prF_p a b d, d, none, rfl, .inl ⟨kvs, .inr z, .inl (e1 _ _ hd), rfl, (hk.none hz).symm⟩, k H1 e1⟩
      | false => exact iteF (k H1 e1)
    · exact ⟨_, rfl, _, _, rfl, .odd ty hk1, fun H1 e1 => ⟨_, rfl, iteF (k H1 e1)⟩⟩
theorem ok_PrGet (F : Fun Z.K "__getitem__" "Prices.__getitem__" s_Prices_dd_getitem f fd) (D : PrC Z CP) (TK : ExT Z.K Z.mg "BadKind" "word" "BadKind.__init__" CK PK fK) (c : CalS Z CX0 2 CP "__contains__" ["self", "word"] (spPrHas Z.K C CP)) :
    Z.ok (CXN Z) 3 f fd ["self", "word"] (spPrGet Z.K C CP CK) := by
  refine Fun.okN F sc_Prices_dd_getitem (fun vs H Q E h => ?_) (fun cdv A outer s H vs Q E hr h => ?_)
  · obtain ⟨x, w, P, rfl, _⟩ := h
    rfl
  · obtain ⟨x, w, P, rfl, hx, g, h⟩ := h
    have hP := hx
    obtain ⟨xa, dx, a, b, d, kvs, rfl, hx, ha, hb, hd, hk⟩ := hx
    refine ⟨_, (pss_cons (ps_if (pt_cmpR (op_notInO c hr) (pv 1) (pv 0) (by rfl))
      (pss_one (ps_raiseX TK fl_wordP hr (L2N.takes_of rfl rfl rfl rfl) (pa_cons (pv 1) pa_nil) rfl))
      pss_nil)
      (pss_one (ps_ret (pe_dget (hu_of hr) (pe_fld (pv 0) rfl) (pv 1) (fun _ _ => rfl))))), ?_⟩
    rcases h with ⟨z, q, rfl, hz, k⟩ | ⟨hn, k⟩
    · obtain ⟨v, hv, hs⟩ := hk.val g hz
      refine ⟨_, rfl, _, rfl, ⟨xa, dx, _, rfl, hx⟩, _, _, P, rfl, hP, g, .inl ⟨z, q, rfl, hz, fun H1 e1 => ⟨true, rfl, _, rfl, iteF ?_⟩⟩⟩
      refine ⟨_, rfl, xa, CP, dx, _, _, rfl, e1 _ _ hx, D.cl, D.nP, prF_p a b d, _, rfl, d, v, rfl, .inl ⟨kvs, .inr z, .inl (e1 _ _ hd), rfl, hv.symm⟩, k v H1 e1 (hs.mono e1)⟩
    · exact ⟨_, rfl, _, rfl, ⟨xa, dx, _, rfl, hx⟩, _, _, P, rfl, hP, g, .inr ⟨hn, fun H1 e1 => ⟨false, rfl, _, rfl, iteT ⟨_, rfl, _, rfl, (k.later e1).now⟩⟩⟩⟩
theorem ok_PrLen (F : Fun Z.K "__len__" "Prices.__len__" s_Prices_dd_len f fd) (B : PrB Z) (D : PrC Z CP) : Z.ok CX0 1 f fd ["self"] (spPrLen C CP) := by
  refine F.ok sc_Prices_dd_len (fun vs H Q E h => ?_) (fun cdv A outer s H vs Q E hr h => ?_)
  · obtain ⟨x, P, rfl, _⟩ := h
    rfl
  · obtain ⟨x, P, rfl, hx, k⟩ := h
    obtain ⟨xa, dx, a, b, d, kvs, rfl, hx, ha, hb, hd, hk⟩ := hx
    refine ⟨_, (pss_one (ps_ret (pe_callB call_lenD (by rfl) B.len PySem.boot_len (pa_cons (pe_fld (pv 0) rfl) pa_nil)))), ?_⟩
    rw [← hk.1] at k
    exact ⟨_, rfl, xa, CP, dx, _, _, rfl, hx, D.cl, D.nP, prF_p a b d, d, kvs, rfl, hd, k⟩
theorem ok_PrWords (F : Fun Z.K "words" "Prices.words" s_Prices_words f fd) (B : PrB Z) (D : PrC Z CP) : Z.ok CX0 1 f fd ["self"] (spPrWords C CP) := by
  refine F.ok sc_Prices_words (fun vs H Q E h => ?_) (fun cdv A outer s H vs Q E hr h => ?_)
  · obtain ⟨x, P, rfl, _⟩ := h
    rfl
  · obtain ⟨x, P, rfl, hx, k⟩ := h
    obtain ⟨xa, dx, a, b, d, kvs, rfl, hx, ha, hb, hd, hk⟩ := hx
    refine ⟨_, (pss_one (ps_ret (pe_callTy (call_listD rfl) (by rfl) B.list (by decide +kernel) (pa_cons (pe_fld (pv 0) rfl) pa_nil)))), ?_⟩
    have e : (kvs.map fun kv => kV kv.1) = (P.ks.map (·.1)).map V.str := by
      have : kvs.map (fun kv => kV kv.1) = (kvs.map (·.1)).map kV := by rw [List.map_map]; rfl
      rw [this, hk.keys, List.map_map, List.map_map]
      rfl
    exact ⟨_, rfl, xa, CP, dx, _, _, rfl, hx, D.cl, D.nP, prF_p a b d, d, kvs, rfl, .inl hd, fun p hp => k p _ (Same.upd hp) hp (by rw [upd_same, e])⟩
theorem ok_PrMk (F : Fun Z.K "make" "Prices.make" s_Prices_make f fd) (D : PrC Z CP) : Z.ok CX0 1 f fd ["self"] (spPrMk C CP (·.md)) := by
  refine F.ok sc_Prices_make (fun vs H Q E h => ?_) (fun cdv A outer s H vs Q E hr h => ?_)
  · obtain ⟨x, P, rfl, _⟩ := h
    rfl
  · obtain ⟨x, P, rfl, hx, k⟩ := h
    obtain ⟨xa, dx, a, b, d, kvs, rfl, hx, ha, hb, hd, hk⟩ := hx
    refine ⟨_, (pss_one (ps_ret (pe_fld (pv 0) rfl))), ?_⟩
    exact ⟨_, rfl, xa, CP, dx, _, _, rfl, hx, D.cl, D.nM, prF_m a b d, k a ha⟩
theorem ok_PrGm (F : Fun Z.K "general_make" "Prices.general_make" s_Prices_general_make f fd) (D : PrC Z CP) : Z.ok CX0 1 f fd ["self"] (spPrMk C CP (·.gn)) := by
  refine F.ok sc_Prices_general_make (fun vs H Q E h => ?_) (fun cdv A outer s H vs Q E hr h => ?_)
  · obtain ⟨x, P, rfl, _⟩ := h
    rfl
  · obtain ⟨x, P, rfl, hx, k⟩ := h
    obtain ⟨xa, dx, a, b, d, kvs, rfl, hx, ha, hb, hd, hk⟩ := hx
    refine ⟨_, (pss_one (ps_ret (pe_fld (pv 0) rfl))), ?_⟩
    exact ⟨_, rfl, xa, CP, dx, _, _, rfl, hx, D.cl, D.nG, prF_g a b d, k b hb⟩
abbrev CPrGet (Z : Cz) (C CP CK : Addr) : Prop := CalI Z (CXN Z) 3 CP ["self", "word"] (spPrGet Z.K C CP CK)
theorem ok_PrOwn (F : Fun Z.K "own" "Prices.own" s_Prices_own f fd) (D : PrC Z CP) (M : ShP Z C) (cI : CPrGet Z C CP CK) : Z.ok (CXN Z) 6 f fd ["self", "word"] (spPrOf Z.K C CP CK qOwn) := by
  refine Fun.okN F sc_Prices_own (fun vs H Q E h => ?_) (fun cdv A outer s H vs Q E hr h => ?_)
  · obtain ⟨x, w, P, rfl, _⟩ := h
    rfl
  · obtain ⟨x, w, P, rfl, hx, g, h⟩ := h
    have hP := hx
    obtain ⟨xa, dx, a, b, d, kvs, rfl, hx, ha, hb, hd, hk⟩ := hx
    refine ⟨_, (pss_one (ps_ret (pe_op (op_num (op := .Add) M.add M.na (hr.mono (by decide)) pass0) (pe_fld (pv 0) rfl) (pe_ix ix_tup (pe_ixP cI (hr.mono (by decide)) (passN (L2N.takes_of rfl rfl rfl rfl)) (pv 0) (pv 1)) pe_int (fun _ _ => rfl))))), ?_⟩
    refine ⟨_, rfl, xa, CP, dx, _, _, rfl, hx, D.cl, D.nM, prF_m a b d, ?_⟩
    rcases h with ⟨z, q, rfl, hz, k⟩ | ⟨hn, k⟩
    · refine ⟨_, rfl, _, rfl, ⟨xa, dx, _, rfl, hx⟩, _, _, P, rfl, hP, g.ks, .inl ⟨z, q, rfl, hz, fun v H1 e1 hv => ?_⟩⟩
      obtain ⟨t, y1, y2, rfl, ht, h1, h2⟩ := hv
      refine ⟨t, _, _, _, rfl, rfl, SqT.of ht, rfl, ?_⟩
      obtain ⟨⟨gq1, _⟩, _⟩ := g.ks.q _ hz
      have ha1 := ha.mono e1
      exact ⟨ha1.ins, .inl h1.ins, a, y1, P.md, q.1, rfl, ha1, .inl h1, g.md.z.up (by decide), gq1.z.up (by decide), fun v H2 e2 hv => k v H2 (e1.trans e2) hv⟩
    · exact ⟨_, rfl, _, rfl, ⟨xa, dx, _, rfl, hx⟩, _, _, P, rfl, hP, g.ks, .inr ⟨hn, k⟩⟩
theorem ok_PrGen (F : Fun Z.K "general" "Prices.general" s_Prices_general f fd) (D : PrC Z CP) (cI : CPrGet Z C CP CK) : Z.ok (CXN Z) 5 f fd ["self", "word"] (spPrOf Z.K C CP CK fun _ q => q.2) := by
  refine Fun.okN F sc_Prices_general (fun vs H Q E h => ?_) (fun cdv A outer s H vs Q E hr h => ?_)
  · obtain ⟨x, w, P, rfl, _⟩ := h
    rfl
  · obtain ⟨x, w, P, rfl, hx, g, h⟩ := h
    have hP := hx
    obtain ⟨xa, dx, a, b, d, kvs, rfl, hx, ha, hb, hd, hk⟩ := hx
    refine ⟨_, (pss_one (ps_ret (pe_ix ix_tup (pe_ixP cI hr (passN (L2N.takes_of rfl rfl rfl rfl)) (pv 0) (pv 1)) pe_int (fun _ _ => rfl)))), ?_⟩
    rcases h with ⟨z, q, rfl, hz, k⟩ | ⟨hn, k⟩
    · refine ⟨_, rfl, _, rfl, ⟨xa, dx, _, rfl, hx⟩, _, _, P, rfl, hP, g.ks, .inl ⟨z, q, rfl, hz, fun v H1 e1 hv => ?_⟩⟩
      obtain ⟨t, y1, y2, rfl, ht, h1, h2⟩ := hv
      exact ⟨t, _, _, _, rfl, rfl, SqT.of ht, rfl, k y2 H1 e1 h2⟩
    · exact ⟨_, rfl, _, rfl, ⟨xa, dx, _, rfl, hx⟩, _, _, P, rfl, hP, g.ks, .inr ⟨hn, k⟩⟩
end
end Ps

/-! Prices: the best of a kind, ==. -/
namespace Ps
open PySem PySem.Spec PyProof.Rows PySem.W L2 LamX

/-- the same prices -/
def SameP (P P' : PrS) : Prop := P.md = P'.md ∧ P.gn = P'.gn ∧ P.ks.length = P'.ks.length ∧ ∀ x ∈ P.ks, x ∈ P'.ks
instance {P P' : PrS} : Decidable (SameP P P') := by unfold SameP; infer_instance
def spPrEq (K : Frag) (C CP : Addr) : Sp := fun vs H Q _ => ∃ x y P, vs = [x, y] ∧ PrAtS C CP H x P ∧ PrG' P ∧ ((∃ P', PrAtS C CP H y P' ∧ PrG' P' ∧ ∀ H', Same H H' → Q (.bl (decide (SameP P P'))) H') ∨ (∃ t, TyX K H y t ∧ kitOne K t (.ref CP) = some false ∧ Q (.bl false) H))
abbrev dPr (C : Addr) : Eqb := DOwn C (shR C)
theorem eq_sh {C : Addr} {H : Hp} {x y : V} {q r : Int × Int} (h1 : Sh C H x q) (h2 : Sh C H y r) (g1 : Qn q) (g2 : Qn r) : dPr C x y (decide (q = r)) H := by
  have h := own_sh h1 h2 (g1.z.up (by decide)) (g2.z.up (by decide))
  rw [decide_eq_decide.mpr (gMin_eq g1.toLw g2.toLw)] at h
  exact h
theorem tup_eq {K : Frag} {C : Addr} {H : Hp} {v y : V} {x x' : Q2} (h : ShPr C H v x) (h' : ShPr C H y x') (g : Qn x.1 ∧ Qn x.2) (g' : Qn x'.1 ∧ Qn x'.2) : DTupB K (dPr C) v y (decide (x = x')) H := by
  obtain ⟨t, a, b, rfl, ht, ha, hb⟩ := h
  obtain ⟨t', a', b', rfl, ht', ha', hb'⟩ := h'
  refine ⟨t, t', _, _, rfl, rfl, SqT.of ht, SqT.of ht', ?_, fun z => ?_⟩
  · have d1 := eq_sh ha ha' g.1 g'.1
    have d2 := eq_sh hb hb' g.2 g'.2
    obtain ⟨x1, x2⟩ := x
    obtain ⟨y1, y2⟩ := x'
    by_cases e1 : x1 = y1
    · by_cases e2 : x2 = y2
      · subst e1 e2
        rw [decide_eq_true rfl] at d1 d2 ⊢
        exact .yes d1 (.yes d2 .nil)
      · have e3 : ¬ (x1, x2) = (y1, y2) := fun z => e2 (Prod.ext_iff.mp z).2
        rw [decide_eq_true e1] at d1
        rw [decide_eq_false e2] at d2
        rw [decide_eq_false e3]
        exact .yes d1 (.no d2)
    · have e3 : ¬ (x1, x2) = (y1, y2) := fun z => e1 (Prod.ext_iff.mp z).1
      rw [decide_eq_false e1] at d1
      rw [decide_eq_false e3]
      exact .no d1
  · subst z
    rw [ht] at ht'
    have e := HO.tup.inj (Option.some.inj ht')
    simp only [List.cons.injEq, and_true] at e
    obtain ⟨rfl, rfl⟩ := e
    exact decide_eq_true (Prod.ext (ha.inj ha') (hb.inj hb'))
theorem eqd_pr {K : Frag} {C : Addr} {H : Hp} {ls : List (Key × V)} {ks' : List (Str × Q2)} (h' : KdAt C H ls ks') (g' : KnG ks') : ∀ (r : List (Key × V)) (rs : List (Str × Q2)), KdAt C H r rs → (∀ x ∈ rs, Qn x.2.1 ∧ Qn x.2.2) → EqD (DTupB K (dPr C)) H ls r (decide (∀ x ∈ rs, x ∈ ks'))
  | [], [], _, _ => by
    rw [decide_eq_true (fun x hx => by cases hx)]
    exact .nil
  | [], _ :: _, h, _ => by cases h.1
  | _ :: _, [], h, _ => by cases h.1
  | (k, v) :: r, x :: rs, h, g => by
    obtain ⟨e1, hv⟩ := h.2 0 (k, v) x rfl rfl
    have e1 : k = .inr x.1 := e1
    subst e1
    have ih := eqd_pr (K := K) h' g' r rs ⟨by simpa using h.1, fun i kv y h1 h2 => h.2 (i + 1) kv y h1 h2⟩ fun y hy => g y (List.mem_cons_of_mem _ hy)
    have split : decide (∀ y ∈ x :: rs, y ∈ ks') = (decide (x ∈ ks') && decide (∀ y ∈ rs, y ∈ ks')) := by
      rw [← Bool.decide_and]
      exact decide_eq_decide.mpr (by simp)
    rw [split]
    by_cases hx : x.1 ∈ ks'.map (·.1)
    · obtain ⟨y, hy, ey⟩ := List.mem_map.mp hx
      obtain ⟨w, hw, hs⟩ := h'.val g' (z := y.1) (q := y.2) hy
      rw [ey] at hw
      have gy := g'.q y hy
      have d := tup_eq (K := K) hv hs (g x (List.mem_cons_self ..)) ⟨gy.1.1, gy.2.1⟩
      have e2 : decide (x ∈ ks') = decide (x.2 = y.2) := decide_eq_decide.mpr ⟨fun hm => ?_, fun z => by
        have : x = y := Prod.ext ey.symm z
        rw [this]
        exact hy⟩
      · rw [e2]
        exact EqD.step hw d ih
      · have nd := g'.nd
        obtain ⟨i, hi⟩ := List.getElem?_of_mem hm
        obtain ⟨j, hj⟩ := List.getElem?_of_mem hy
        have li := (List.getElem?_eq_some_iff.mp hi).1
        have lj := (List.getElem?_eq_some_iff.mp hj).1
        have e3 : (ks'.map (·.1))[i]'(by simpa using li) = (ks'.map (·.1))[j]'(by simpa using lj) := by
          rw [List.getElem_map, List.getElem_map, (List.getElem?_eq_some_iff.mp hi).2, (List.getElem?_eq_some_iff.mp hj).2]
          exact ey.symm
        have e4 := (List.getElem_inj nd).mp e3
        subst e4
        rw [hi] at hj
        rw [Option.some.inj hj]
    · have hxm : ¬ x ∈ ks' := fun z => hx (List.mem_map.mpr ⟨x, z, rfl⟩)
      rw [decide_eq_false hxm, Bool.false_and]
      exact .miss (h'.none hx)
theorem KnG.qs {ks : List (Str × Q2)} (g : KnG ks) : ∀ x ∈ ks, Qn x.2.1 ∧ Qn x.2.2 := fun x hx => ⟨(g.q x hx).1.1, (g.q x hx).2.1⟩
theorem KdAt.inj {C : Addr} {H : Hp} {kvs : List (Key × V)} {ks ks' : List (Str × Q2)} (h : KdAt C H kvs ks) (h' : KdAt C H kvs ks') : ks = ks' := by
  refine List.ext_getElem? fun i => ?_
  have l1 := h.1
  have l2 := h'.1
  cases h1 : kvs[i]? with
  | none =>
    have := List.getElem?_eq_none_iff.mp h1
    rw [List.getElem?_eq_none_iff.mpr (show ks.length ≤ i by omega), List.getElem?_eq_none_iff.mpr (show ks'.length ≤ i by omega)]
  | some kv =>
    have hi := (List.getElem?_eq_some_iff.mp h1).1
    have hi2 : i < ks.length := by omega
    have hi3 : i < ks'.length := by omega
    obtain ⟨e1, t, a, b, e2, ht, ha, hb⟩ := h.2 i kv ks[i] h1 (List.getElem?_eq_getElem hi2)
    obtain ⟨e1', t', a', b', e2', ht', ha', hb'⟩ := h'.2 i kv ks'[i] h1 (List.getElem?_eq_getElem hi3)
    rw [List.getElem?_eq_getElem hi2, List.getElem?_eq_getElem hi3]
    rw [e1] at e1'
    rw [e2] at e2'
    cases e2'
    rw [ht] at ht'
    have e := HO.tup.inj (Option.some.inj ht')
    simp only [List.cons.injEq, and_true] at e
    obtain ⟨rfl, rfl⟩ := e
    exact congrArg some (Prod.ext (Sum.inr.inj e1') (Prod.ext (ha.inj ha') (hb.inj hb')))
section
variable {Z : Cz} {X : Cx} {C : Addr}
theorem eqB_pr (M : CalS Z CX0 6 C "__eq__" ["self", "other"] (spShEq Z.K C)) (z : InZ Z X) : EqB X 7 (DTupB Z.K (dPr C)) := by
  have h := eqB_tup (X := X) (mon_own mon_shR) (eqB_own M sh_sp z)
  rw [z.K] at h
  exact h
end
section
variable {Z : Cz} {f C CP CK PK fK : Addr} {fd : FuncData}
theorem ok_PrBest (F : Fun Z.K "best" "Prices.best" s_Prices_best f fd) (S : ShT Z C) (D : PrC Z CP) (c_own : CalM Z (CXN Z) 6 CP "own" ["self", "word"] [] (spPrOf Z.K C CP CK qOwn)) (c_general : CalM Z (CXN Z) 5 CP "general" ["self", "word"] [] (spPrOf Z.K C CP CK fun _ q => q.2))
    (cle : CalS Z CX0 6 C "__le__" ["self", "other"] (spOrd C fun i => decide (i ≤ 0))) : Z.ok (CXN Z) 7 f fd ["self", "word"] (spPrOf Z.K C CP CK qBest) := by
  refine Fun.okN F sc_Prices_best (fun vs H Q E h => ?_) (fun cdv A outer s H vs Q E hr h => ?_)
  · obtain ⟨x, w, P, rfl, _⟩ := h
    rfl
  · obtain ⟨x, w, P, rfl, hx, g, h⟩ := h
    have hP := hx
    obtain ⟨xa, dx, a, b, d, kvs, rfl, hx, ha, hb, hd, hk⟩ := hx
    refine ⟨_, (pss_cons (ps_set (i := 2) sc_Prices_best.nd rfl (Or.inl rfl) (pe_calM c_own (hr.mono (by decide)) (passN (L2N.takes_of rfl rfl rfl rfl)) (pv 0) (pa_cons (pv 1) pa_nil)))
      (pss_cons (ps_set (i := 3) sc_Prices_best.nd rfl (Or.inl rfl) (pe_calM c_general (hr.mono (by decide)) (passN (L2N.takes_of rfl rfl rfl rfl)) (pv 0) (pa_cons (pv 1) pa_nil)))
      (pss_one (ps_ret (pe_ifExp (pt_cmpR (op_cmp (op := .LtE) cle (hr.mono (by decide)) pass0) (pv 2) (pv 3) (nomark _)) (pv 2) (pv 3)))))), ?_⟩
    have no : ∀ m : Str, m = "own" ∨ m = "general" → (prF a b d).lookup m = none := by
      rintro m (rfl | rfl) <;> exact prF_no _ _ _ _ (by decide) (by decide) (by decide)
    rcases h with ⟨z, q, rfl, hz, k⟩ | ⟨hn, k⟩
    · obtain ⟨⟨gq1, _⟩, ⟨gq2, _⟩⟩ := g.ks.q _ hz
      refine ⟨_, rfl, xa, dx, _, rfl, hx, no _ (.inl rfl), _, rfl, _, _, P, rfl, hP, g, .inl ⟨z, q, rfl, hz, fun v1 H1 e1 h1 => ?_⟩⟩
      refine ⟨_, rfl, xa, dx, _, rfl, e1 _ _ hx, no _ (.inr rfl), _, rfl, _, _, P, rfl, hP.mono e1, g, .inl ⟨z, q, rfl, hz, fun v2 H2 e2 h2 => ?_⟩⟩
      have h12 := h1.mono e2
      have z1 : Sz 4000 (qOwn P q) := (g.md.z.add gq1.z).up (by decide)
      refine ⟨_, rfl, _, rfl, h12.ins, Nb.nf S (.inl h2), _, _, qOwn P q, q.2, rfl, h12, .inl h2, z1, gq2.z.up (by decide), fun H3 e3 => ?_⟩
      refine ⟨_, rfl, iteD (fun hle => ⟨_, rfl, ?_⟩) (fun hle => ⟨_, rfl, ?_⟩)⟩
      · have e4 : qBest P q = qOwn P q := if_pos hle
        exact k v1 H3 (e1.trans (e2.trans e3)) (by rw [e4]; exact h12.mono e3)
      · have e4 : qBest P q = q.2 := if_neg hle
        exact k v2 H3 (e1.trans (e2.trans e3)) (by rw [e4]; exact h2.mono e3)
    · exact ⟨_, rfl, xa, dx, _, rfl, hx, no _ (.inl rfl), _, rfl, _, _, P, rfl, hP, g, .inr ⟨hn, k⟩⟩
theorem ok_PrEq (F : Fun Z.K "__eq__" "Prices.__eq__" s_Prices_dd_eq f fd) (B : PrB Z) (S : ShT Z C) (D : PrC Z CP) (ceq : CalS Z CX0 6 C "__eq__" ["self", "other"] (spShEq Z.K C)) (N : NeT Z.K C) : Z.ok CX0 9 f fd ["self", "other"] (spPrEq Z.K C CP) := by
  refine F.ok sc_Prices_dd_eq (fun vs H Q E h => ?_) (fun cdv A outer s H vs Q E hr h => ?_)
  · obtain ⟨x, y, P, rfl, _⟩ := h
    rfl
  · obtain ⟨x, y, P, rfl, hx, g, h⟩ := h
    refine ⟨_, (pss_cons (ps_if (pt_not (pt_val (pe_callB call_isi (by rfl) B.isi (by decide +kernel) (pa_cons (pv 1) (pa_cons (pe_glob (v := .ref CP) rfl D.mg rfl) pa_nil)))))
      (pss_one (ps_ret pe_bl))
      pss_nil)
      (pss_cons (ps_if (PW.pt (pw_or (pt_cmpR (op_ne_ ceq N (hr.mono (by decide)) pass0) (pe_fld (pv 0) rfl) (pe_fld (pv 1) rfl) (nomark _)) (pw_or1 (pt_cmpR (op_ne_ ceq N (hr.mono (by decide)) pass0) (pe_fld (pv 0) rfl) (pe_fld (pv 1) rfl) (nomark _)))))
      (pss_one (ps_ret pe_bl))
      pss_nil)
      (pss_one (ps_ret (pe_cmpR (op_eqB (RcB.or (rcB_dct (n := 7) (mon_tupB (mon_own mon_shR)) (eqB_pr ceq ⟨rfl, rfl, rfl, rfl, rfl⟩)) (rcB_dctS.mono (by decide))) hr) (pe_fld (pv 0) rfl) (pe_fld (pv 1) rfl) (nomark _)))))), ?_⟩
    rcases h with ⟨P', hy, g', k⟩ | ⟨t, ty, hk, k⟩
    · obtain ⟨xa, dx, a, b, d, kvs, rfl, hx, ha, hb, hd, hk⟩ := hx
      obtain ⟨ya, dy, a', b', d', ls, rfl, hy, ha', hb', hd', hk'⟩ := hy
      have n1 : ∀ {u : V} {r : Int × Int} {Hh : Hp}, Sh C Hh u r → Nf Z.K C Hh u := fun {u r Hh} hu => Nb.nf S (.inl hu)
      refine ⟨_, rfl, _, _, _, _, true, rfl, .own CP, .base (.ins hy D.cl D.ha D.hn D.htk D.hm), D.kCC, _, rfl, iteF ?_⟩
      refine ⟨_, rfl, xa, CP, dx, _, _, rfl, hx, D.cl, D.nM, prF_m a b d, _, rfl, ya, CP, dy, _, _, rfl, hy, D.cl, D.nM, prF_m a' b' d', ha.ins, n1 ha', a, a', P.md, rfl, ha, .inl ⟨P'.md, .inl ha', g.md.z.up (by decide), g'.md.z.up (by decide), fun H1 e1 => ⟨_, rfl, _, rfl, ?_⟩⟩⟩
      rw [decide_eq_decide.mpr (gMin_eq g.md.toLw g'.md.toLw)]
      by_cases m1 : P.md = P'.md
      · rw [decide_eq_true m1]
        refine iteF ?_
        refine ⟨_, rfl, xa, CP, dx, _, _, rfl, e1 _ _ hx, D.cl, D.nG, prF_g a b d, _, rfl, ya, CP, dy, _, _, rfl, e1 _ _ hy, D.cl, D.nG, prF_g a' b' d', (hb.mono e1).ins, n1 (hb'.mono e1), b, b', P.gn, rfl, hb.mono e1, .inl ⟨P'.gn, .inl (hb'.mono e1), g.gn.z.up (by decide), g'.gn.z.up (by decide), fun H2 e2 => ⟨_, rfl, _, rfl, ?_⟩⟩⟩
        rw [decide_eq_decide.mpr (gMin_eq g.gn.toLw g'.gn.toLw)]
        have e12 := e1.trans e2
        by_cases m2 : P.gn = P'.gn
        · rw [decide_eq_true m2]
          refine iteF ?_
          refine ⟨_, rfl, xa, CP, dx, _, _, rfl, e12 _ _ hx, D.cl, D.nP, prF_p a b d, _, rfl, ya, CP, dy, _, _, rfl, e12 _ _ hy, D.cl, D.nP, prF_p a' b' d', ?_⟩
          have es : decide (SameP P P') = decide (P.ks.length = P'.ks.length ∧ ∀ x ∈ P.ks, x ∈ P'.ks) := decide_eq_decide.mpr ⟨fun z => z.2.2, fun z => ⟨m1, m2, z⟩⟩
          rw [es] at k
          have hk2 := hk.mono e12
          have hk2' := hk'.mono e12
          by_cases hdd : d = d'
          · subst hdd
            rw [hd] at hd'
            cases HO.dK.inj (Option.some.inj hd')
            have e5 := hk.inj hk'
            refine ⟨_, .inr ⟨d, kvs, rfl, rfl, e12 _ _ hd, rfl⟩, fun H3 e3 => ?_⟩
            have := k H3 (e12.trans e3)
            rw [decide_eq_true (show P.ks.length = P'.ks.length ∧ ∀ x ∈ P.ks, x ∈ P'.ks from by rw [e5]; exact ⟨rfl, fun _ h => h⟩)] at this
            exact this
          · by_cases hl : P.ks.length = P'.ks.length
            · refine ⟨_, .inl ⟨d, d', kvs, ls, rfl, rfl, hdd, e12 _ _ hd, e12 _ _ hd', .inr ⟨by rw [hk.1, hk'.1, hl], eqd_pr hk2' g'.ks kvs P.ks hk2 g.ks.qs⟩⟩, fun H3 e3 => ?_⟩
              have := k H3 (e12.trans e3)
              rw [decide_eq_decide.mpr (show (P.ks.length = P'.ks.length ∧ ∀ x ∈ P.ks, x ∈ P'.ks) ↔ ∀ x ∈ P.ks, x ∈ P'.ks from ⟨fun z => z.2, fun z => ⟨hl, z⟩⟩)] at this
              exact this
            · refine ⟨_, .inl ⟨d, d', kvs, ls, rfl, rfl, hdd, e12 _ _ hd, e12 _ _ hd', .inl ⟨by rw [hk.1, hk'.1]; exact hl, rfl⟩⟩, fun H3 e3 => ?_⟩
              have := k H3 (e12.trans e3)
              rw [decide_eq_false (show ¬ (P.ks.length = P'.ks.length ∧ ∀ x ∈ P.ks, x ∈ P'.ks) from fun z => hl z.1)] at this
              exact this
        · rw [decide_eq_false m2]
          refine iteT ?_
          have := k H2 e12
          rw [decide_eq_false (show ¬ SameP P P' from fun z => m2 z.2.1)] at this
          exact this
      · rw [decide_eq_false m1]
        refine iteT ?_
        have := k H1 e1
        rw [decide_eq_false (show ¬ SameP P P' from fun z => m1 z.1)] at this
        exact this
    · exact ⟨_, rfl, _, _, _, _, false, rfl, .own CP, ty, hk, _, rfl, iteT k⟩
end
end Ps

/-! Prices behind the top: facts by a Bool. -/
namespace Ps
open PySem PySem.Spec PyProof.Rows PySem.W L2 He

theorem prB_ok {K : Frag} {h : Heap} {mg : Str → Option Value} {P : Program} {w : World} {base : Heap} (X : K.In h) (G : h.Ns mainGlobals mg) (c : prB K = true) : PrB ⟨P, w, K, mg, base⟩ ∧ PrC ⟨P, w, K, mg, base⟩ (ga K "Prices") ∧ Mk K (ga K "Prices") (ma K (ga K "Prices") "__init__") := by
  obtain ⟨c1, c⟩ := ba c
  obtain ⟨c2, c⟩ := ba c
  obtain ⟨c3, c⟩ := ba c
  obtain ⟨c4, c⟩ := ba c
  obtain ⟨c5, c⟩ := ba c
  obtain ⟨c6, c⟩ := ba c
  obtain ⟨c7, c⟩ := ba c
  obtain ⟨c8, c⟩ := ba c
  obtain ⟨c9, c⟩ := ba c
  obtain ⟨c10, c⟩ := ba c
  obtain ⟨c11, c12⟩ := ba c
  obtain ⟨d1, d⟩ := ba c8
  obtain ⟨d2, d⟩ := ba d
  obtain ⟨d3, d4⟩ := ba d
  have f := fun {x : Str} (hx : x ∈ (["isinstance", "int", "bool", "str", "list", "len", "all", "sorted", "tuple", "dict"] : List Str)) => freeB_ok X G c7 hx
  exact ⟨⟨⟨f (by simp), f (by simp), f (by simp), f (by simp), f (by simp), f (by simp), f (by simp), f (by simp), txtB_ok X G c10, intB_ok X G c11⟩, f (by simp), f (by simp), intB_ok X G c12⟩,
    ⟨cls_ok c1, noat_ok c3, noat_ok c4, noat_ok c5, glo_ok X G c6, eqO_ok d1, eqO_ok d2, of_decide_eq_true d3, of_decide_eq_true d4, of_decide_eq_true c9⟩, mkr_ok c2⟩
theorem GotM.mkr {mk : List (At × Str)} {h : Heap} {Z : Cz} {x m qual q : Str} {st : Stmt} {f : Addr} {fd : FuncData} (t : TabsH mk Z.K h) (hB : ∀ p ∈ tabsOf mk Z.K, LamX.TabB Z.base Z.mg p.1 p.2) (hm : (.m x m, q) ∈ mk) (g : GotM Z.K (ga Z.K x) m qual st f fd) : Mkr Z (tabsT mk Z.K) fd.code q := by
  have hf : f = (At.m x m).a Z.K := by
    show f = ma Z.K (ga Z.K x) m
    unfold ma
    rw [g.o.fn]
  obtain ⟨oc, od, kV, doc, pm, an, cdv, ct, osl, rfl, lk, hcd⟩ := g.F.ex
  exact t.mkr hB hm hf lk
theorem GotM.calI {Z : Cz} {CX : CXT} {k : Nat} {C : Addr} {qual : Str} {st : Stmt} {f : Addr} {fd : FuncData} {ps : List Str} {sp : Sp} (g : GotM Z.K C "__getitem__" qual st f fd) (G : Z.ok CX k f fd ps sp) (b : Binds Z.K fd ps []) : CalI Z CX k C ps sp := by
  refine ⟨f, fd, G, g.o, ?_, b⟩
  obtain ⟨oc, od, kV, doc, pm, an, cdv, ct, osl, rfl, lk, hcd⟩ := g.F.ex
  unfold fnIn
  rw [lk]
end Ps

/-! Dict displays that begin with another dict's pairs: {**d, k: v}, {**d, **e}. -/
namespace Ps
open PySem PySem.Spec PyProof.Rows PySem.W L2
section
variable {prog : Program} {w : World} {K : Type} [DecidableEq K] {knd : KeyKind prog w K} {A : Around} {E : Value → Shared → Prop} {s : Shared}
theorem dictPut_pairs {d : Addr} {kvs : List (K × Value)} {k : K} {key v : Value} {Q : Unit → Shared → Prop} (hkey : knd.is k key = true) (hm : s.heap.DictOf knd d kvs)
    (hQ : ∀ h', h'.DictOf knd d (stored kvs k v) → Heap.SameBut d s.heap h' → Q () { s with heap := h' }) (hsz : kvs.length ≤ sizeLine) :
    wpAny (model prog w) A (dictPut d (knd.hash k) key v) Q E s := by
  obtain ⟨o, es, ep, ho, hc, hd, hk, hp, hn⟩ := hm
  have hes : es.size ≤ sizeLine := by have e1 := hp.length; have e2 : es.toList.length = es.size := by simp
                                      omega
  unfold dictPut
  refine wpAny_bind (wpAny_dictFind_of hkey ho hd hk ?_)
  have hidx : (es.findIdx? fun e => knd.is k e.key) = kvs.findIdx? fun kv => decide (kv.1 = k) := by
    rw [← hp.findIdx k]; obtain ⟨l⟩ := es; simp
  cases hi : es.findIdx? fun e => knd.is k e.key with
  | some i =>
    refine wpAny_updateDict ho hd (hQ _ ⟨_, _, ep, Heap.get?_update_self _ ho (Obj.isFreed_of_dict (Obj.data_mapDict hd _)),
      hc.mapDict _, Obj.data_mapDict hd _, hk.modify _ _, ?_, ?_⟩ (Heap.SameBut.update ..))
    · rw [stored, if_pos (any_of_findIdx_some (hidx ▸ hi))]
      have hl : (es.toList.findIdx? fun e => knd.is k e.key) = some i := by rw [← hi]; obtain ⟨l⟩ := es; simp
      have := hp.modify hn hl v
      obtain ⟨l⟩ := es
      simpa using this
    · rw [stored, if_pos (any_of_findIdx_some (hidx ▸ hi)), keys_map_store]; exact hn
  | none =>
    have hnot : k ∉ kvs.map (·.1) := not_mem_of_findIdx_none (hidx ▸ hi)
    have hany : ¬ (kvs.any fun kv => decide (kv.1 = k)) = true := by
      rw [List.any_eq_true]; rintro ⟨kv, hkv, he⟩
      exact hnot (List.mem_map.mpr ⟨kv, hkv, of_decide_eq_true he⟩)
    refine wpAny_updateDictKeys (hz := hes) ho hd (hQ _ ⟨_, _, ep + 1, Heap.get?_update_self _ ho (Obj.isFreed_of_dict (Obj.data_mapDictKeys hd _)),
      hc.mapDictKeys _, Obj.data_mapDictKeys hd _, hk.push hkey _, ?_, ?_⟩ (Heap.SameBut.update ..))
    · rw [stored, if_neg hany]
      have := hp.append hkey (knd.hash k) v
      obtain ⟨l⟩ := es
      simpa using this
    · rw [stored, if_neg hany, List.map_append, List.nodup_append]
      refine ⟨hn, by simp, ?_⟩
      intro a ha b hb
      simp only [List.map_cons, List.map_nil, List.mem_singleton] at hb
      subst hb
      exact fun e => hnot (e ▸ ha)
theorem mergeMapping_pairs {d o : Addr} {kvs more : List (K × Value)} {Q : Unit → Shared → Prop} (hkr : ∀ k v, knd.is k v = true → ∀ a, v ≠ .ref a) (hdo : d ≠ o) (hoS : (o == sysModules) = false)
    (hd : s.heap.DictOf knd d kvs) (ho : s.heap.DictOf knd o more) (hsz : kvs.length + more.length ≤ sizeLine)
    (hQ : ∀ h', h'.DictOf knd d (merged kvs more) → Heap.SameBut d s.heap h' → Q () { s with heap := h' }) :
    wpAny (model prog w) A (mergeMapping d (.ref o) false) Q E s := by
  obtain ⟨od, esd, epd, hod, hcd, hdd, hkd, hpd, hnd⟩ := id hd
  obtain ⟨oo, eso, epo, hoo, hco, hdo', hko, hpo, hno⟩ := id ho
  have hlen : more.length = eso.size := by rw [← hpo.length]; simp
  unfold mergeMapping
  refine wpAny_bind (m := isInstance (.ref o) (.type "dict")) (wpAny_isInstance ho.typeIs PySem.F.sub_dict_dict ?_)
  dsimp only
  rw [if_pos rfl]
  refine wpAny_bind (m := specialOf (.ref o) "__iter__") (wpAny_specialOf ho.typeIs PySem.F.slot_dict_iter.lookup ?_)
  refine wpAny_bind (wpAny_pure ?_)
  simp only [beq_self_eq_true]
  rw [if_neg (show ¬ (o == sysModules) = true by rw [hoS]; exact Bool.false_ne_true)]
  refine wpAny_bind (wpAny_dictEntries hod hdd ?_)
  have loop : wpAny (model prog w) A (do
      let size := (← dictEntries o).size
      let epoch ← dictEpoch o
      for i in List.range size do
        let some e := (← dictEntries o)[i]? | unsupported "dict.changed-during-merge"
        holding [e.key, e.val] do
          if false = true then
            if (← dictFind d e.key e.hash).isSome then rule "dict.merge.duplicate-key"; raiseNew (← newExc (.type "KeyError") [e.key])
          dictPut d e.hash e.key e.val
        if (← dictEpoch o) != epoch then unsupported "dict.changed-during-merge") Q E s := by
    refine wpAny_bind (wpAny_dictEntries hoo hdo' ?_)
    refine wpAny_bind (wpAny_dictEpoch hoo hdo' ?_)
    refine wpAny_bind ?_
    refine wpAny_forIn_list _
      (fun rest _ s' => ∃ h' i, s' = { s with heap := h' } ∧ rest = (List.range eso.size).drop i ∧ i ≤ eso.size ∧ h'.DictOf knd d (merged kvs (more.take i)) ∧ h'.get? o = some oo ∧ Heap.SameBut d s.heap h')
      _ ?_ ?_ _ _ ⟨s.heap, 0, rfl, by simp, Nat.zero_le _, by simpa [merged] using hd, hoo, Heap.SameBut.refl _ _⟩
    · rintro x rest b s' ⟨h', i, rfl, hr, hi, hd', hoo', hs'⟩
      have hlt : i < eso.size := by
        rcases Nat.lt_or_ge i eso.size with h | h
        · exact h
        · rw [List.drop_of_length_le (by simpa using h)] at hr; cases hr
      obtain ⟨rfl, hrest⟩ : x = i ∧ rest = (List.range eso.size).drop (i + 1) := by
        rw [List.drop_eq_getElem_cons (by simpa using hlt)] at hr
        injection hr with h1 h2
        exact ⟨by simpa using h1, h2⟩
      refine wpAny_bind (wpAny_dictEntries hoo' hdo' ?_)
      rw [Array.getElem?_eq_getElem hlt]
      obtain ⟨kv, hkv⟩ : ∃ kv, more[x]? = some kv := ⟨more[x]'(by rw [hlen]; exact hlt), List.getElem?_eq_getElem _⟩
      obtain ⟨k, v⟩ := kv
      obtain ⟨hkey, hval⟩ := hpo.get? (e := eso[x]) (by simp [hlt]) hkv
      obtain ⟨k', hkey', hhash⟩ := hko eso[x] (Array.getElem_mem hlt)
      obtain rfl : k' = k := knd.inj _ _ _ hkey' hkey
      have hmx : (merged kvs (more.take x)).length ≤ sizeLine := by
        have e1 := merged_length_le kvs (more.take x)
        have e2 : (more.take x).length ≤ more.length := by rw [List.length_take]; omega
        omega
      simp only [Bool.false_eq_true, if_false]
      show wpAny _ _ (holding [eso[x].key, eso[x].val] (dictPut d eso[x].hash eso[x].key eso[x].val) >>= _) _ _ _
      rw [hhash, hval]
      refine wpAny_bind (wpAny_holding (dictPut_pairs hkey hd' (fun h'' hd'' hs'' => ?_) hmx))
      have hoo'' : h''.get? o = some oo := (hs''.2 o (Ne.symm hdo)).trans hoo'
      refine wpAny_bind (wpAny_dictEpoch hoo'' hdo' ?_)
      rw [if_neg (by simp)]
      exact wpAny_pure ⟨h'', x + 1, rfl, hrest, hlt, by rw [merged_take_succ kvs more x (k', v) hkv]; exact hd'', hoo'', hs'.trans hs''⟩
    · rintro b s' ⟨h', i, rfl, hr, hi, hd', hoo', hs'⟩
      have hin : i = eso.size := by
        rcases Nat.lt_or_ge i eso.size with h | h
        · rw [List.drop_eq_getElem_cons (by simpa using h)] at hr; cases hr
        · exact Nat.le_antisymm hi h
      refine wpAny_pure (hQ h' ?_ hs')
      rw [hin, ← hlen, List.take_length] at hd'; exact hd'
  split
  · refine wpAny_bind (wpAny_dictEntries hoo hdo' ?_)
    refine wpAny_bind ?_
    rw [← Array.forIn_toList]
    refine wpAny_forIn_list _ (fun rest _ s' => s' = s ∧ ∀ e ∈ rest, e ∈ eso.toList) _ ?_ ?_ _ _ ⟨rfl, fun _ h => h⟩
    · rintro e rest b s' ⟨rfl, hm⟩
      have he : e ∈ eso := Array.mem_toList_iff.mp (hm e (List.mem_cons_self ..))
      obtain ⟨k', hk', _⟩ := hko e he
      have hne := hkr _ _ hk'
      obtain ⟨eh, ek, ev⟩ := e
      dsimp only at hne ⊢
      cases ek with
      | ref a => exact absurd rfl (hne a)
      | _ => exact wpAny_pure ⟨rfl, fun e h => hm e (List.mem_cons_of_mem _ h)⟩
    · rintro b s' ⟨rfl, _⟩
      exact loop
  · exact loop
end
end Ps

/-! Dict displays that begin with another dict's pairs: the rules. -/
namespace Ps
open PySem PySem.Spec PyProof.Rows PySem.W L2
theorem gatherD (d : Addr) (f : (Option (Sem Value) × Sem Value) → (Option Addr × List (Sem Value × Sem Value)) → Sem (ForInStep (Option Addr × List (Sem Value × Sem Value))))
    (hf : ∀ (p : Sem Value × Sem Value) (run : List (Sem Value × Sem Value)), run.length + 1 < 17 → f (some p.1, p.2) (some d, run) = pure (.yield (some d, run ++ [p]))) :
    ∀ (items run : List (Sem Value × Sem Value)), run.length + items.length < 17 → forIn (items.map fun p => (some p.1, p.2)) ((some d : Option Addr), run) f = pure (some d, run ++ items)
  | [], run, _ => by simp
  | p :: rest, run, h => by
    rw [List.map_cons, List.forIn_cons, hf p run (by simp at h; omega), pure_bind]
    have := gatherD d f hf rest (run ++ [p]) (by simp at h ⊢; omega)
    simpa using this
section
variable {prog : Program} {w : World} {A : Around} {E : Value → Shared → Prop} {s : Shared}
/-- {**v, pairs} -/
theorem display_star {v : Sem Value} {pairs : List (Sem Value × Sem Value)} {Q : Value → Shared → Prop} (h0 : pairs ≠ []) (hlen : pairs.length < 17)
    (h : wpAny (model prog w) A v (fun m s1 => wpAny (model prog w) A (mergeMapping s.heap.objs.size m false) (fun _ s2 => wpAny (model prog w) A (subDict pairs) (fun sub s3 =>
      wpAny (model prog w) A (mergeMapping s.heap.objs.size (.ref sub) false) (fun _ s4 => Q (.ref s.heap.objs.size) s4) (fun _ _ => False) s3) E s2) (fun _ _ => False) s1) E { s with heap := s.heap.push { cls := .type "dict", data := .dict #[] } }) :
    wpAny (model prog w) A (dictDisplay ((none, v) :: pairs.map fun p => (some p.1, p.2))) Q E s := by
  unfold dictDisplay
  dsimp only
  rw [List.forIn_cons]
  refine wpAny_bind (wpAny_bind ?_)
  simp only [List.isEmpty_nil, if_true, pure_bind]
  refine wpAny_bind (wpAny_alloc ?_)
  refine wpAny_bind (wpAny_holding (wpAny_mono h (fun m s1 h1 => ?_) fun _ _ e => e))
  refine wpAny_bind (wpAny_onRaise (wpAny_tryCatch (wpAny_onRaise (wpAny_holding (wpAny_mono h1 (fun _ s2 h2 => ?_) fun _ _ z => z.elim)))))
  refine wpAny_pure ?_
  dsimp only
  rw [gatherD s.heap.objs.size _ (fun p run h => by
    have hne : ((run ++ [(p.1, p.2)]).length == 17) = false := by simp; omega
    simp only [hne, Bool.false_eq_true, if_false]) pairs [] (by simpa using hlen)]
  refine wpAny_pure ?_
  dsimp only
  rw [List.nil_append, if_neg (by simpa using h0)]
  refine wpAny_bind (wpAny_bind (wpAny_holding (wpAny_mono h2 (fun sub s3 h3 => ?_) fun _ _ e => e)))
  refine wpAny_bind (wpAny_onRaise (wpAny_holding (wpAny_mono h3 (fun _ s4 h4 => ?_) fun _ _ z => z.elim)))
  exact wpAny_pure (wpAny_pure h4)
/-- {**v, **u} -/
theorem display_star2 {v u : Sem Value} {Q : Value → Shared → Prop}
    (h : wpAny (model prog w) A v (fun m s1 => wpAny (model prog w) A (mergeMapping s.heap.objs.size m false) (fun _ s2 => wpAny (model prog w) A u (fun m2 s3 =>
      wpAny (model prog w) A (mergeMapping s.heap.objs.size m2 false) (fun _ s4 => Q (.ref s.heap.objs.size) s4) (fun _ _ => False) s3) E s2) (fun _ _ => False) s1) E { s with heap := s.heap.push { cls := .type "dict", data := .dict #[] } }) :
    wpAny (model prog w) A (dictDisplay [(none, v), (none, u)]) Q E s := by
  unfold dictDisplay
  dsimp only
  rw [List.forIn_cons]
  refine wpAny_bind (wpAny_bind ?_)
  simp only [List.isEmpty_nil, if_true, pure_bind]
  refine wpAny_bind (wpAny_alloc ?_)
  refine wpAny_bind (wpAny_holding (wpAny_mono h (fun m s1 h1 => ?_) fun _ _ e => e))
  refine wpAny_bind (wpAny_onRaise (wpAny_tryCatch (wpAny_onRaise (wpAny_holding (wpAny_mono h1 (fun _ s2 h2 => ?_) fun _ _ z => z.elim)))))
  refine wpAny_pure ?_
  dsimp only
  rw [List.forIn_cons]
  refine wpAny_bind ?_
  dsimp only
  simp only [List.isEmpty_nil, if_true, pure_bind]
  refine wpAny_bind (wpAny_holding (wpAny_mono h2 (fun m2 s3 h3 => ?_) fun _ _ e => e))
  refine wpAny_bind (wpAny_onRaise (wpAny_tryCatch (wpAny_onRaise (wpAny_holding (wpAny_mono h3 (fun _ s4 h4 => ?_) fun _ _ z => z.elim)))))
  refine wpAny_pure ?_
  dsimp only
  rw [List.forIn_nil]
  refine wpAny_pure ?_
  dsimp only
  simp only [List.isEmpty_nil, if_true, pure_bind]
  exact wpAny_pure h4
end
section
variable {X : Cx} {pos : Pos} {e e2 : Expr} {te te2 : TE} {keys : List (Option Expr)} {values : List Expr} {trs : List (TE × TE)}
theorem mix_nref {k : Key} {v : Value} (h : (mixKind X.prog X.w).is k v = true) (a : Addr) : v ≠ .ref a := by
  rcases keyIs_shape h with ⟨i, t, rfl, rfl⟩ | ⟨x, t, rfl, rfl⟩ <;> exact fun z => nomatch z
/-- the pairs of the dict at o go into the dict at d -/
theorem inv_merge {pins : List (Addr × Obj)} {σ : L2.St} {H : Hp} {s : Shared} {d o : Addr} {kvs more : List (Key × V)} {Q : Unit → Shared → Prop} {E : Value → Shared → Prop} (I : L2.Inv X pins σ H s) (hd : H d = some (.dK kvs)) (ho : Rd H o (.dK more)) (hne : d ≠ o) (hz : kvs.length + more.length ≤ 1000)
    (h : ∀ s', L2.Inv X pins σ (upd H d (.dK (mergeK kvs more))) s' → Q () s') : wpAny (model X.prog X.w) X.A (mergeMapping d (.ref o) false) Q E s := by
  obtain ⟨z1, n1, vs, r1, d1⟩ := dk_of I.hok hd
  obtain ⟨z2, n2, us, r2, d2⟩ := dk_rd I.hok ho
  have hsz : vs.length + us.length ≤ sizeLine := by rw [← r1.length, ← r2.length, sizeLine_eq]; omega
  refine mergeMapping_pairs (knd := mixKind X.prog X.w) (fun k v h a => mix_nref h a) hne n2 d1 d2 hsz fun h' dd' hs => h _ ?_
  have hz' : (mergeK kvs more).length ≤ sizeLine := by
    have h1 := length_mergeK more kvs
    rw [sizeLine_eq]; omega
  have he : ∃ q, h'.get? d = some q := let ⟨q, _, _, hq, _⟩ := dd'; ⟨q, hq⟩
  exact d_write I (by rw [hd]; exact True.intro) hs he (dk_new hz' n1 (r2.merge r1) dd')
def tDispM (te : TE) (trs : List (TE × TE)) : TE := fun σ H Q => ∀ p, H p = none → te σ (upd H p (.dK [])) fun x H1 => ∃ a kvs, x = .ref a ∧ Rd H1 a (.dK kvs) ∧ H1 p = some (.dK []) ∧ p ≠ a ∧ kvs.length ≤ 100 ∧
  ∀ q, (upd H1 p (.dK (mergeK [] kvs))) q = none → tPairs trs σ (upd (upd H1 p (.dK (mergeK [] kvs))) q (.dK [])) fun ps H2 => H2 q = some (.dK []) ∧ H2 p = some (.dK (mergeK [] kvs)) ∧ p ≠ q ∧
    ∃ more : List (Key × V), ps = more.map (fun kv => (kV kv.1, kv.2)) ∧ more.length ≤ 15 ∧ Q (.ref p) (upd (upd H2 q (.dK (mergeK [] more))) p (.dK (mergeK (mergeK [] kvs) (mergeK [] more))))
theorem pe_dispM (he : PE X e te) (h : PPs X pos keys values trs) (hall : keys.all (·.isSome) = true) (hl : keys.length = values.length) (h0 : keys ≠ []) (h15 : keys.length ≤ 15) : PE X (.Dict (none :: keys) (e :: values) pos) (tDispM te trs) := by
  refine ⟨fun pins s σ H Q I q => ?_⟩
  have hn := I.hok.fresh (Nat.le_refl s.heap.objs.size)
  have I1 := I.laid (a := s.heap.objs.size) (o := .dK []) (h' := s.heap.push { cls := .type "dict", data := .dict #[] }) (t' := s.toks) (fun _ _ q => Heap.get?_push_of_some _ q) (Nat.le_refl _) (dk_empty s.heap I.big)
  have hpn := pairTrees_length keys values X.env pos hall hl
  rw [arm_eval_Dict]
  refine wpAny_bind (wpAny_standAt ?_)
  show wpAny _ _ (dictDisplay ((none, _) :: (evalEachOpt keys X.env).zip ((evalEach values X.env).map fun v => do let x ← v; standAt pos; pure x))) _ _ _
  rw [zip_pairTrees keys values X.env pos hall hl]
  refine display_star (fun z => h0 (List.length_eq_zero_iff.mp (by rw [← hpn, z]; rfl))) (by rw [hpn]; omega) ?_
  refine wpAny_bind (thn (he.run pins _ σ _ _ I1 (q _ hn)) fun u s1 ⟨x, H1, I2, rx, a, kvs, ex, ea, ep, hne, hz, q1⟩ => wpAny_bind (wpAny_standAt (wpAny_pure ?_)))
  subst ex
  obtain rfl : u = Value.ref a := rx
  refine inv_merge I2 ep ea hne (by simp only [List.length_nil]; omega) fun s2 I3 => ?_
  have hnq := I3.hok.fresh (Nat.le_refl s2.heap.objs.size)
  have I4 := I3.laid (a := s2.heap.objs.size) (o := .dK []) (h' := s2.heap.push { cls := .type "dict", data := .dict #[] }) (t' := s2.toks) (fun _ _ q => Heap.get?_push_of_some _ q) (Nat.le_refl _) (dk_empty s2.heap I3.big)
  refine wpAny_subDict (knd := mixKind X.prog X.w) (by rw [hpn]; exact h15) (thn (h.run pins _ σ _ _ I4 (q1 _ hnq)) fun ws s3 ⟨ps, H2, I5, rel, eq, ep2, hpq, more, eps, lk, q2⟩ => ?_)
  subst eps
  obtain ⟨rs, c, rk⟩ := carries_of (P := X.prog) (w := X.w) rel
  obtain ⟨z, hd, vs0, r0, dd⟩ := dk_of I5.hok eq
  cases r0
  refine ⟨rs, c, dd, fun h' dd' hs => ?_⟩
  have hlm := length_mergeK more ([] : List (Key × V))
  have hlk := length_mergeK kvs ([] : List (Key × V))
  rw [List.length_nil] at hlm hlk
  have hz : (mergeK [] more).length ≤ sizeLine := by rw [sizeLine_eq]; omega
  have hex : ∃ q, h'.get? s2.heap.objs.size = some q := let ⟨q, _, _, hq, _⟩ := dd'; ⟨q, hq⟩
  have I6 := d_write (t' := s3.toks + ws.length) I5 (by rw [eq]; exact True.intro) hs hex (dk_new hz hd (rk.merge .nil) dd')
  refine inv_merge I6 (by rw [upd_ne hpq]; exact ep2) (.inl upd_same) hpq (by omega) fun s4 I7 => ⟨.ref _, _, I7, rfl, q2⟩
def tDispM2 (te te2 : TE) : TE := fun σ H Q => ∀ p, H p = none → te σ (upd H p (.dK [])) fun x H1 => ∃ a kvs, x = .ref a ∧ Rd H1 a (.dK kvs) ∧ H1 p = some (.dK []) ∧ p ≠ a ∧ kvs.length ≤ 100 ∧
  te2 σ (upd H1 p (.dK (mergeK [] kvs))) fun y H2 => ∃ b more, y = .ref b ∧ Rd H2 b (.dK more) ∧ H2 p = some (.dK (mergeK [] kvs)) ∧ p ≠ b ∧ more.length ≤ 100 ∧ Q (.ref p) (upd H2 p (.dK (mergeK (mergeK [] kvs) more)))
theorem pe_dispM2 (he : PE X e te) (he2 : PE X e2 te2) : PE X (.Dict [none, none] [e, e2] pos) (tDispM2 te te2) := by
  refine ⟨fun pins s σ H Q I q => ?_⟩
  have hn := I.hok.fresh (Nat.le_refl s.heap.objs.size)
  have I1 := I.laid (a := s.heap.objs.size) (o := .dK []) (h' := s.heap.push { cls := .type "dict", data := .dict #[] }) (t' := s.toks) (fun _ _ q => Heap.get?_push_of_some _ q) (Nat.le_refl _) (dk_empty s.heap I.big)
  rw [arm_eval_Dict]
  refine wpAny_bind (wpAny_standAt ?_)
  show wpAny _ _ (dictDisplay [(none, _), (none, _)]) _ _ _
  refine display_star2 ?_
  refine wpAny_bind (thn (he.run pins _ σ _ _ I1 (q _ hn)) fun u s1 ⟨x, H1, I2, rx, a, kvs, ex, ea, ep, hne, hz, q1⟩ => wpAny_bind (wpAny_standAt (wpAny_pure ?_)))
  subst ex
  obtain rfl : u = Value.ref a := rx
  refine inv_merge I2 ep ea hne (by simp only [List.length_nil]; omega) fun s2 I3 => ?_
  refine wpAny_bind (thn (he2.run pins _ σ _ _ I3 q1) fun u2 s3 ⟨y, H2, I4, ry, b, more, ey, eb, ep2, hne2, hz2, q2⟩ => wpAny_bind (wpAny_standAt (wpAny_pure ?_)))
  subst ey
  obtain rfl : u2 = Value.ref b := ry
  have hlk := length_mergeK kvs ([] : List (Key × V))
  rw [List.length_nil] at hlk
  exact inv_merge I4 ep2 eb hne2 (by omega) fun s4 I7 => ⟨.ref _, _, I7, rfl, q2⟩
end
end Ps

/-! Books: the tests of settings, settings as kept. -/
namespace Ps
open PySem PySem.Spec PyProof.Rows PySem.W L2

def NotI (K : Frag) (H : Hp) (v : V) : Prop := ∃ t, TyX K H v t ∧ (t = .type "bool" ∨ kitOne K t (.type "int") = some false)
/-- a number above 0, or not -/
def AbB (K : Frag) (C : Addr) (H : Hp) (v : V) (b : Bool) : Prop := (∃ q, Nb C H v q ∧ Sz 100 q ∧ b = decide (0 < q.1)) ∨ (NotNum K C H v ∧ b = false)
inductive AfB (K : Frag) (C : Addr) (H : Hp) : V → Bool → Prop
  | str (z : Str) : AfB K C H (.str z) (decide (z = "ever"))
  | odd {v : V} {t : Value} (ty : TyX K H v t) (k1 : kitOne K t (.type "str") = some false) (k2 : kitOne K t (.type "tuple") = some false) : AfB K C H v false
  | len {a : Addr} {xs : List V} (h : H a = some (.tup xs)) (hl : xs.length ≠ 2) : AfB K C H (.ref a) false
  | first {a : Addr} {x y : V} {t : Value} (h : H a = some (.tup [x, y])) (ty : TyX K H x t) (k : kitOne K t (.type "str") = some false) : AfB K C H (.ref a) false
  | doubt {a : Addr} {w : V} {b : Bool} (h : H a = some (.tup [.str "doubt", w])) (hw : AbB K C H w b) : AfB K C H (.ref a) b
  | look {a : Addr} {i : Int} (h : H a = some (.tup [.str "look", .int i])) : AfB K C H (.ref a) (decide (1 ≤ i) && decide (i ≤ 9))
  | lookN {a : Addr} {w : V} (h : H a = some (.tup [.str "look", w])) (hw : NotI K H w) : AfB K C H (.ref a) false
/-- a setting that is right, or not -/
inductive StB (K : Frag) (C : Addr) (H : Hp) : Str → V → Bool → Prop
  | triesN : StB K C H "tries" .non true
  | triesI (i : Int) : StB K C H "tries" (.int i) (decide (0 ≤ i) && decide (i ≤ 6))
  | triesX {v : V} (h : NotI K H v) (hn : v ≠ .non) : StB K C H "tries" v false
  | told {v : V} {b : Bool} (h : AbB K C H v b) : StB K C H "told" v b
  | factor {v : V} {q : Int × Int} (h : Nb C H v q) (hz : Sz 100 q) : StB K C H "factor" v (decide (0 ≤ q.1))
  | factorN {v : V} (h : NotNum K C H v) : StB K C H "factor" v false
  | after {v : V} {b : Bool} (h : AfB K C H v b) : StB K C H "after" v b
  | flag {x : Str} (hx : x ∈ (["equal", "sliding", "keep"] : List Str)) (c : Bool) : StB K C H x (.bl c) true
  | flagN {x : Str} (hx : x ∈ (["equal", "sliding", "keep"] : List Str)) {v : V} {t : Value} (ty : TyX K H v t) (k : kitOne K t (.type "bool") = some false) : StB K C H x v false
/-- names at the top -/
structure BkT (Z : Cz) : Prop where
  str : Z.mg "str" = none
  tuple : Z.mg "tuple" = none
  len : Z.mg "len" = none
  all : Z.mg "all" = none
  ever : ∃ t, Z.mg "EVER" = some (.str "ever" t)
  most : ∃ t, Z.mg "MOST_TRIES" = some (.int 6 t)
  look : ∃ t, Z.mg "MOST_LOOK" = some (.int 9 t)
  fields : ∃ a, Z.mg "FIELDS" = some (.ref a) ∧ ∀ H, SqT Z.K H a [.str "tries", .str "told", .str "factor", .str "equal", .str "sliding", .str "after", .str "keep"]
/-- the shares' own methods -/
structure ShM (Z : Cz) (C : Addr) : Prop where
  gt : CalS Z CX0 6 C "__gt__" ["self", "other"] (spOrd C fun i => decide (0 < i))
  ge : CalS Z CX0 6 C "__ge__" ["self", "other"] (spOrd C fun i => decide (0 ≤ i))
  eq : CalS Z CX0 6 C "__eq__" ["self", "other"] (spShEq Z.K C)
  add : CAdd Z C
  na : NumF Z.K C "add"
  new : CShare Z C
  new1 : CShare1 Z C
  isnum : Cal Z CX0 2 "is_number" ["value"] [] (spIsNum Z.K C)
  isint : Cal Z CX0 1 "is_integer" ["value"] [] (spIsInt Z.K)
def spAbove (K : Frag) (C : Addr) : Sp := fun vs H Q _ => ∃ v b, vs = [v] ∧ AbB K C H v b ∧ ∀ H', Same H H' → Q (.bl b) H'
def spAfter (K : Frag) (C : Addr) : Sp := fun vs H Q _ => ∃ v b, vs = [v] ∧ AfB K C H v b ∧ ∀ H', Same H H' → Q (.bl b) H'
def spSetting (K : Frag) (C : Addr) : Sp := fun vs H Q _ => ∃ x v b, vs = [.str x, v] ∧ StB K C H x v b ∧ ∀ H', Same H H' → Q (.bl b) H'
section
variable {Z : Cz} {f C : Addr} {fd : FuncData}
theorem ok_is_above (F : Fun Z.K "is_above" "is_above" s_is_above f fd) (T : ShT Z C) (M : ShM Z C) : Z.ok CX0 7 f fd ["value"] (spAbove Z.K C) := by
  refine F.ok sc_is_above (fun vs H Q E h => ?_) (fun cdv A outer s H vs Q E hr h => ?_)
  · obtain ⟨v, b, rfl, _⟩ := h
    rfl
  · obtain ⟨v, b, rfl, h, k⟩ := h
    refine ⟨_, (pss_one (ps_ret (pe_and (pe_cal M.isnum (hr.mono (by decide)) (by rfl) pass0 (pa_cons (pv 0) pa_nil)) (pe_one (pe_cmpR (op_both (op_cmp (op := .Gt) M.gt hr pass0) op_gt) (pv 0) pe_int (nomark _)))))), ?_⟩
    rcases h with ⟨q, hq, hz, rfl⟩ | ⟨hn, rfl⟩
    · refine ⟨_, rfl, v, rfl, .inl ⟨⟨q, hq⟩, _, rfl, iteT ?_⟩⟩
      rcases id hq with hs | ⟨i, rfl, rfl⟩
      · refine ⟨_, rfl, .inl ⟨hs.ins, Nb.nf T (.inr ⟨0, rfl, rfl⟩), v, _, q, (0, 1), rfl, hs, .inr ⟨0, rfl, rfl⟩, hz.up (by decide), sz_zero, fun H' e => ?_⟩⟩
        rw [min_zero]
        exact k H' e
      · exact ⟨_, rfl, .inr ⟨_, _, rfl, rfl, k H (Same.refl _)⟩⟩
    · exact ⟨_, rfl, v, rfl, .inr ⟨hn, _, rfl, iteF (k H (Same.refl _))⟩⟩
abbrev CAbove (Z : Cz) (C : Addr) : Prop := Cal Z CX0 7 "is_above" ["value"] [] (spAbove Z.K C)
theorem ok_is_after (F : Fun Z.K "is_after" "is_after" s_is_after f fd) (T : ShT Z C) (B : BkT Z) (M : ShM Z C) (c_is_above : CAbove Z C) : Z.ok CX0 8 f fd ["value"] (spAfter Z.K C) := by
  refine F.ok sc_is_after (fun vs H Q E h => ?_) (fun cdv A outer s H vs Q E hr h => ?_)
  · obtain ⟨v, b, rfl, _⟩ := h
    rfl
  · obtain ⟨v, b, rfl, h, k⟩ := h
    obtain ⟨te, ge⟩ := B.ever
    obtain ⟨tl, gl⟩ := B.look
    refine ⟨_, (pss_cons (ps_if (pt_val (pe_callB call_isi (by rfl) T.isi (by decide +kernel) (pa_cons (pv 0) (pa_cons (pe_ty "str" (by rfl) B.str (by decide +kernel)) pa_nil))))
      (pss_one (ps_ret (pe_cmpR op_eq (pv 0) (pe_glob (v := .str "ever") rfl ge ⟨_, rfl⟩) (nomark _))))
      pss_nil)
      (pss_cons (ps_if (PW.pt (pw_or (pt_not (pt_val (pe_callB call_isi (by rfl) T.isi (by decide +kernel) (pa_cons (pv 0) (pa_cons (pe_ty "tuple" (by rfl) B.tuple (by decide +kernel)) pa_nil))))) (pw_or (pt_cmpR op_ne (pe_callB call_len_seq (by rfl) B.len PySem.boot_len (pa_cons (pv 0) pa_nil)) pe_int (nomark _)) (pw_or1 (pt_not (pt_val (pe_callB call_isi (by rfl) T.isi (by decide +kernel) (pa_cons (pe_ix ix_tup (pv 0) pe_int (fun _ _ => rfl)) (pa_cons (pe_ty "str" (by rfl) B.str (by decide +kernel)) pa_nil)))))))))
      (pss_one (ps_ret pe_bl))
      pss_nil)
      (pss_cons (ps_if (pt_cmpR op_eq (pe_ix ix_tup (pv 0) pe_int (fun _ _ => rfl)) pe_str (nomark _))
      (pss_one (ps_ret (pe_cal c_is_above (hr.mono (by decide)) (by rfl) pass0 (pa_cons (pe_ix ix_tup (pv 0) pe_int (fun _ _ => rfl)) pa_nil))))
      pss_nil)
      (pss_one (ps_ret (pe_and (pe_cmpR op_eq (pe_ix ix_tup (pv 0) pe_int (fun _ _ => rfl)) pe_str (nomark _)) (pe_and (pe_cal M.isint (hr.mono (by decide)) (by rfl) pass0 (pa_cons (pe_ix ix_tup (pv 0) pe_int (fun _ _ => rfl)) pa_nil)) (pe_one (pe_chain op_le op_le pe_int (pe_ix ix_tup (pv 0) pe_int (fun _ _ => rfl)) (pe_glob (v := .int 9) rfl gl ⟨_, rfl⟩)))))))))), ?_⟩
    have k0 := k H (Same.refl _)
    have two : ∀ {a : Addr} {z : Str} {w : V}, H a = some (.tup [.str z, w]) → ∀ {P : Prop}, P → True := fun _ _ _ => trivial
    cases h with
    | str z =>
      refine ⟨_, rfl, _, _, _, _, true, rfl, .ty "str", .base (.str _), kit_ty (by decide +kernel), _, rfl, iteT ?_⟩
      refine ⟨_, rfl, rfl, ?_⟩
      rw [show decide (V.str z = V.str "ever") = decide (z = "ever") from decide_eq_decide.mpr ⟨V.str.inj, fun z => by rw [z]⟩]
      exact k0
    | odd ty k1 k2 =>
      refine ⟨_, rfl, _, _, _, _, false, rfl, .ty "str", ty, k1, _, rfl, iteF ?_⟩
      exact ⟨_, rfl, _, _, _, _, false, rfl, .ty "tuple", ty, k2, _, rfl, iteT k0⟩
    | @len a xs h hl =>
      refine ⟨_, rfl, _, _, _, _, false, rfl, .ty "str", .base (.tup h), kit_ty (by decide +kernel), _, rfl, iteF ?_⟩
      refine ⟨_, rfl, _, _, _, _, true, rfl, .ty "tuple", .base (.tup h), kit_ty (by decide +kernel), _, rfl, iteF ?_⟩
      refine ⟨_, rfl, a, _, rfl, .inr (SqT.of h), rfl, _, rfl, ?_⟩
      rw [decide_eq_false (show ¬ V.int ((xs.length : Nat) : Int) = V.int 2 from fun z => hl (by have := V.int.inj z; omega))]
      exact iteT k0
    | @first a x y t h ty k1 =>
      refine ⟨_, rfl, _, _, _, _, false, rfl, .ty "str", .base (.tup h), kit_ty (by decide +kernel), _, rfl, iteF ?_⟩
      refine ⟨_, rfl, _, _, _, _, true, rfl, .ty "tuple", .base (.tup h), kit_ty (by decide +kernel), _, rfl, iteF ?_⟩
      refine ⟨_, rfl, a, _, rfl, .inr (SqT.of h), rfl, _, rfl, iteNS rfl ?_⟩
      exact ⟨_, rfl, a, _, _, _, rfl, rfl, SqT.of h, rfl, _, _, _, _, false, rfl, .ty "str", ty, k1, _, rfl, iteT k0⟩
    | @doubt a w b h hw =>
      refine ⟨_, rfl, _, _, _, _, false, rfl, .ty "str", .base (.tup h), kit_ty (by decide +kernel), _, rfl, iteF ?_⟩
      refine ⟨_, rfl, _, _, _, _, true, rfl, .ty "tuple", .base (.tup h), kit_ty (by decide +kernel), _, rfl, iteF ?_⟩
      refine ⟨_, rfl, a, _, rfl, .inr (SqT.of h), rfl, _, rfl, iteNS rfl ?_⟩
      refine ⟨_, rfl, a, _, _, _, rfl, rfl, SqT.of h, rfl, _, _, _, _, true, rfl, .ty "str", .base (.str _), kit_ty (by decide +kernel), _, rfl, iteF ?_⟩
      refine ⟨_, rfl, a, _, _, _, rfl, rfl, SqT.of h, rfl, rfl, _, rfl, iteT ?_⟩
      exact ⟨_, rfl, a, _, _, _, rfl, rfl, SqT.of h, rfl, w, _, rfl, hw, k⟩
    | @look a i h =>
      refine ⟨_, rfl, _, _, _, _, false, rfl, .ty "str", .base (.tup h), kit_ty (by decide +kernel), _, rfl, iteF ?_⟩
      refine ⟨_, rfl, _, _, _, _, true, rfl, .ty "tuple", .base (.tup h), kit_ty (by decide +kernel), _, rfl, iteF ?_⟩
      refine ⟨_, rfl, a, _, rfl, .inr (SqT.of h), rfl, _, rfl, iteNS rfl ?_⟩
      refine ⟨_, rfl, a, _, _, _, rfl, rfl, SqT.of h, rfl, _, _, _, _, true, rfl, .ty "str", .base (.str _), kit_ty (by decide +kernel), _, rfl, iteF ?_⟩
      refine ⟨_, rfl, a, _, _, _, rfl, rfl, SqT.of h, rfl, rfl, _, rfl, iteF ?_⟩
      refine ⟨_, rfl, a, _, _, _, rfl, rfl, SqT.of h, rfl, rfl, _, rfl, iteT ?_⟩
      refine ⟨_, rfl, a, _, _, _, rfl, rfl, SqT.of h, rfl, _, _, rfl, .base (.int _), .inl ⟨rfl, _, rfl, iteT ?_⟩⟩
      refine ⟨_, rfl, a, _, _, _, rfl, rfl, SqT.of h, rfl, _, _, rfl, rfl, _, rfl, ?_⟩
      refine iteD (fun h1 => ?_) (fun h1 => ?_)
      · rw [decide_eq_true h1, Bool.true_and] at k0
        exact ⟨_, _, rfl, rfl, k0⟩
      · rw [decide_eq_false h1, Bool.false_and] at k0
        exact k0
    | @lookN a w h hw =>
      refine ⟨_, rfl, _, _, _, _, false, rfl, .ty "str", .base (.tup h), kit_ty (by decide +kernel), _, rfl, iteF ?_⟩
      refine ⟨_, rfl, _, _, _, _, true, rfl, .ty "tuple", .base (.tup h), kit_ty (by decide +kernel), _, rfl, iteF ?_⟩
      refine ⟨_, rfl, a, _, rfl, .inr (SqT.of h), rfl, _, rfl, iteNS rfl ?_⟩
      refine ⟨_, rfl, a, _, _, _, rfl, rfl, SqT.of h, rfl, _, _, _, _, true, rfl, .ty "str", .base (.str _), kit_ty (by decide +kernel), _, rfl, iteF ?_⟩
      refine ⟨_, rfl, a, _, _, _, rfl, rfl, SqT.of h, rfl, rfl, _, rfl, iteF ?_⟩
      refine ⟨_, rfl, a, _, _, _, rfl, rfl, SqT.of h, rfl, rfl, _, rfl, iteT ?_⟩
      obtain ⟨t, ty, hk⟩ := hw
      refine ⟨_, rfl, a, _, _, _, rfl, rfl, SqT.of h, rfl, w, t, rfl, ty, ?_⟩
      rcases hk with rfl | hk
      · exact .inr (.inl ⟨rfl, _, rfl, iteF k0⟩)
      · exact .inr (.inr ⟨hk, _, rfl, iteF k0⟩)
end
end Ps

/-! Books: settings, as kept; a book is made. -/
namespace Ps
open PySem PySem.Spec PyProof.Rows PySem.W L2

inductive Af where
  | ever
  | doubt (q : Int × Int)
  | look (i : Int)
  deriving DecidableEq
structure Bk where
  tries : Option Int
  told : Int × Int
  factor : Int × Int
  equal : Bool
  sliding : Bool
  after : Af
  keep : Bool
  deriving DecidableEq
def trV : Option Int → V
  | none => .non
  | some i => .int i
def AfV (C : Addr) (H : Hp) (v : V) : Af → Prop
  | .ever => v = .str "ever"
  | .doubt q => ∃ a w, v = .ref a ∧ H a = some (.tup [.str "doubt", w]) ∧ Sh C H w q
  | .look i => ∃ a, v = .ref a ∧ H a = some (.tup [.str "look", .int i])
def AfA (C : Addr) (H : Hp) (v : V) : Af → Prop
  | .ever => v = .str "ever"
  | .doubt q => ∃ a w, v = .ref a ∧ H a = some (.tup [.str "doubt", w]) ∧ Nb C H w q
  | .look i => ∃ a, v = .ref a ∧ H a = some (.tup [.str "look", .int i])
theorem AfV.toA {C : Addr} {H : Hp} {v : V} {af : Af} (h : AfV C H v af) : AfA C H v af := by
  cases af with
  | ever => exact h
  | doubt q => obtain ⟨a, w, h1, h2, h3⟩ := h; exact ⟨a, w, h1, h2, .inl h3⟩
  | look i => exact h
theorem AfV.mono {C : Addr} {H H' : Hp} {v : V} {af : Af} (e : Same H H') (h : AfV C H v af) : AfV C H' v af := by
  cases af with
  | ever => exact h
  | doubt q => obtain ⟨a, w, h1, h2, h3⟩ := h; exact ⟨a, w, h1, e _ _ h2, h3.mono e⟩
  | look i => obtain ⟨a, h1, h2⟩ := h; exact ⟨a, h1, e _ _ h2⟩
theorem AfA.mono {C : Addr} {H H' : Hp} {v : V} {af : Af} (e : Same H H') (h : AfA C H v af) : AfA C H' v af := by
  cases af with
  | ever => exact h
  | doubt q => obtain ⟨a, w, h1, h2, h3⟩ := h; exact ⟨a, w, h1, e _ _ h2, h3.mono e⟩
  | look i => obtain ⟨a, h1, h2⟩ := h; exact ⟨a, h1, e _ _ h2⟩
def AfOk : Af → Prop
  | .ever => True
  | .doubt q => Lw q ∧ Sz 100 q ∧ 0 < q.1
  | .look i => 1 ≤ i ∧ i ≤ 9
structure BkOk (b : Bk) : Prop where
  tr : ∀ i, b.tries = some i → 0 ≤ i ∧ i ≤ 6
  tl : Lw b.told
  tz : Sz 100 b.told
  tp : 0 < b.told.1
  fl : Lw b.factor
  fz : Sz 100 b.factor
  fp : 0 ≤ b.factor.1
  af : AfOk b.after
/-- the seven settings -/
def stL (t o f e s a k : V) : List (Key × V) := [(.inr "tries", t), (.inr "told", o), (.inr "factor", f), (.inr "equal", e), (.inr "sliding", s), (.inr "after", a), (.inr "keep", k)]
def stF : List Str := ["tries", "told", "factor", "equal", "sliding", "after", "keep"]
theorem st_tries (t o f e s a k : V) : valV (stL t o f e s a k) (.inr "tries") = some t := rfl
theorem st_told (t o f e s a k : V) : valV (stL t o f e s a k) (.inr "told") = some o := rfl
theorem st_factor (t o f e s a k : V) : valV (stL t o f e s a k) (.inr "factor") = some f := rfl
theorem st_equal (t o f e s a k : V) : valV (stL t o f e s a k) (.inr "equal") = some e := rfl
theorem st_sliding (t o f e s a k : V) : valV (stL t o f e s a k) (.inr "sliding") = some s := rfl
theorem st_after (t o f e s a k : V) : valV (stL t o f e s a k) (.inr "after") = some a := rfl
theorem st_keep (t o f e s a k : V) : valV (stL t o f e s a k) (.inr "keep") = some k := rfl
def Sts (C : Addr) (H : Hp) (d : Addr) (b : Bk) : Prop := ∃ vo vf va, H d = some (.dK (stL (trV b.tries) vo vf (.bl b.equal) (.bl b.sliding) va (.bl b.keep))) ∧ Sh C H vo b.told ∧ Sh C H vf b.factor ∧ AfV C H va b.after
theorem Sts.mono {C d : Addr} {H H' : Hp} {b : Bk} (e : Same H H') (h : Sts C H d b) : Sts C H' d b := by
  obtain ⟨vo, vf, va, h1, h2, h3, h4⟩ := h
  exact ⟨vo, vf, va, e _ _ h1, h2.mono e, h3.mono e, h4.mono e⟩
/-- v is the book b -/
def BkAt (C CB : Addr) (H : Hp) (v : V) (b : Bk) : Prop := ∃ a dx d, v = .ref a ∧ H a = some (.ins CB dx [("settings", .ref d)]) ∧ Sts C H d b ∧ BkOk b
theorem BkAt.mono {C CB : Addr} {H H' : Hp} {v : V} {b : Bk} (e : Same H H') (h : BkAt C CB H v b) : BkAt C CB H' v b := by
  obtain ⟨a, dx, d, h1, h2, h3, h4⟩ := h
  exact ⟨a, dx, d, h1, e _ _ h2, h3.mono e, h4⟩
def spKept (C : Addr) : Sp := fun vs H Q _ => ∃ x v, vs = [.str x, v] ∧
  ((x ∈ (["told", "factor"] : List Str) ∧ ∃ q, Nb C H v q ∧ Sz 100 q ∧ Lw q ∧ ∀ w H', Same H H' → Sh C H' w q → Q w H') ∨
   (x = "after" ∧ ((v = .str "ever" ∧ Q v H) ∨ (∃ a i, v = .ref a ∧ H a = some (.tup [.str "look", .int i]) ∧ Q v H) ∨
      (∃ a w q, v = .ref a ∧ H a = some (.tup [.str "doubt", w]) ∧ Nb C H w q ∧ Sz 100 q ∧ Lw q ∧ ∀ t w' H', Same H H' → H t = none → H' t = some (.tup [.str "doubt", w']) → Sh C H' w' q → Q (.ref t) H'))) ∨
   (x ∈ (["tries", "equal", "sliding", "keep"] : List Str) ∧ Q v H))
section
variable {Z : Cz} {f C : Addr} {fd : FuncData}
abbrev CAfter (Z : Cz) (C : Addr) : Prop := Cal Z CX0 8 "is_after" ["value"] [] (spAfter Z.K C)
theorem ok_is_setting (F : Fun Z.K "is_setting" "is_setting" s_is_setting f fd) (T : ShT Z C) (B : BkT Z) (M : ShM Z C) (c_is_above : CAbove Z C) (c_is_after : CAfter Z C) : Z.ok CX0 9 f fd ["field", "value"] (spSetting Z.K C) := by
  refine F.ok sc_is_setting (fun vs H Q E h => ?_) (fun cdv A outer s H vs Q E hr h => ?_)
  · obtain ⟨x, v, b, rfl, _⟩ := h
    rfl
  · obtain ⟨x, v, b, rfl, h, k⟩ := h
    obtain ⟨tm, gm⟩ := B.most
    refine ⟨_, (pss_cons (ps_if (pt_cmpR op_eq (pv 0) pe_str (nomark _))
      (pss_one (ps_ret (pe_or (pe_cmpR op_isN (pv 1) pe_non (nomark _)) (pe_one (pe_and (pe_cal M.isint (hr.mono (by decide)) (by rfl) pass0 (pa_cons (pv 1) pa_nil)) (pe_one (pe_chain op_le op_le pe_int (pv 1) (pe_glob (v := .int 6) rfl gm ⟨_, rfl⟩))))))))
      pss_nil)
      (pss_cons (ps_if (pt_cmpR op_eq (pv 0) pe_str (nomark _))
      (pss_one (ps_ret (pe_cal c_is_above (hr.mono (by decide)) (by rfl) pass0 (pa_cons (pv 1) pa_nil))))
      pss_nil)
      (pss_cons (ps_if (pt_cmpR op_eq (pv 0) pe_str (nomark _))
      (pss_one (ps_ret (pe_and (pe_cal M.isnum (hr.mono (by decide)) (by rfl) pass0 (pa_cons (pv 1) pa_nil)) (pe_one (pe_cmpR (op_both (op_cmp (op := .GtE) M.ge (hr.mono (by decide)) pass0) op_ge) (pv 1) pe_int (nomark _))))))
      pss_nil)
      (pss_cons (ps_if (pt_cmpR op_eq (pv 0) pe_str (nomark _))
      (pss_one (ps_ret (pe_cal c_is_after (hr.mono (by decide)) (by rfl) pass0 (pa_cons (pv 1) pa_nil))))
      pss_nil)
      (pss_one (ps_ret (pe_callB call_isi (by rfl) T.isi (by decide +kernel) (pa_cons (pv 1) (pa_cons (pe_ty "bool" (by rfl) T.bool (by decide +kernel)) pa_nil))))))))), ?_⟩
    have k0 := k H (Same.refl _)
    cases h with
    | triesN =>
      refine ⟨_, rfl, rfl, _, rfl, iteT ?_⟩
      exact ⟨_, rfl, rfl, _, rfl, iteT k0⟩
    | triesI i =>
      refine ⟨_, rfl, rfl, _, rfl, iteT ?_⟩
      refine ⟨_, rfl, rfl, _, rfl, iteF ?_⟩
      refine ⟨_, rfl, _, _, rfl, .base (.int _), .inl ⟨rfl, _, rfl, iteT ?_⟩⟩
      refine ⟨_, rfl, _, _, rfl, rfl, _, rfl, ?_⟩
      refine iteD (fun h1 => ?_) (fun h1 => ?_)
      · rw [decide_eq_true h1, Bool.true_and] at k0
        exact ⟨_, _, rfl, rfl, k0⟩
      · rw [decide_eq_false h1, Bool.false_and] at k0
        exact k0
    | triesX h hn =>
      refine ⟨_, rfl, rfl, _, rfl, iteT ?_⟩
      refine ⟨_, rfl, rfl, _, rfl, ?_⟩
      rw [decide_eq_false hn]
      refine iteF ?_
      obtain ⟨t, ty, hk⟩ := h
      refine ⟨_, rfl, v, t, rfl, ty, ?_⟩
      rcases hk with rfl | hk
      · exact .inr (.inl ⟨rfl, _, rfl, iteF k0⟩)
      · exact .inr (.inr ⟨hk, _, rfl, iteF k0⟩)
    | told h =>
      refine ⟨_, rfl, rfl, _, rfl, iteF ?_⟩
      refine ⟨_, rfl, rfl, _, rfl, iteT ?_⟩
      exact ⟨_, rfl, v, _, rfl, h, k⟩
    | @factor v q h hz =>
      refine ⟨_, rfl, rfl, _, rfl, iteF ?_⟩
      refine ⟨_, rfl, rfl, _, rfl, iteF ?_⟩
      refine ⟨_, rfl, rfl, _, rfl, iteT ?_⟩
      refine ⟨_, rfl, v, rfl, .inl ⟨⟨q, h⟩, _, rfl, iteT ?_⟩⟩
      rcases id h with hs | ⟨i, rfl, rfl⟩
      · refine ⟨_, rfl, .inl ⟨hs.ins, Nb.nf T (.inr ⟨0, rfl, rfl⟩), v, _, q, (0, 1), rfl, hs, .inr ⟨0, rfl, rfl⟩, hz.up (by decide), sz_zero, fun H' e => ?_⟩⟩
        rw [min_zero]
        exact k H' e
      · exact ⟨_, rfl, .inr ⟨_, _, rfl, rfl, k0⟩⟩
    | factorN h =>
      refine ⟨_, rfl, rfl, _, rfl, iteF ?_⟩
      refine ⟨_, rfl, rfl, _, rfl, iteF ?_⟩
      refine ⟨_, rfl, rfl, _, rfl, iteT ?_⟩
      exact ⟨_, rfl, v, rfl, .inr ⟨h, _, rfl, iteF k0⟩⟩
    | after h =>
      refine ⟨_, rfl, rfl, _, rfl, iteF ?_⟩
      refine ⟨_, rfl, rfl, _, rfl, iteF ?_⟩
      refine ⟨_, rfl, rfl, _, rfl, iteF ?_⟩
      refine ⟨_, rfl, rfl, _, rfl, iteT ?_⟩
      exact ⟨_, rfl, v, _, rfl, h, k⟩
    | flag hx c =>
      simp only [List.mem_cons, List.not_mem_nil, or_false] at hx
      rcases hx with rfl | rfl | rfl <;>
      · refine ⟨_, rfl, rfl, _, rfl, iteF ?_⟩
        refine ⟨_, rfl, rfl, _, rfl, iteF ?_⟩
        refine ⟨_, rfl, rfl, _, rfl, iteF ?_⟩
        refine ⟨_, rfl, rfl, _, rfl, iteF ?_⟩
        exact ⟨_, rfl, _, _, _, _, true, rfl, .ty "bool", .base (.bl _), kit_ty (by decide +kernel), k0⟩
    | flagN hx ty hk =>
      simp only [List.mem_cons, List.not_mem_nil, or_false] at hx
      rcases hx with rfl | rfl | rfl <;>
      · refine ⟨_, rfl, rfl, _, rfl, iteF ?_⟩
        refine ⟨_, rfl, rfl, _, rfl, iteF ?_⟩
        refine ⟨_, rfl, rfl, _, rfl, iteF ?_⟩
        refine ⟨_, rfl, rfl, _, rfl, iteF ?_⟩
        exact ⟨_, rfl, _, _, _, _, false, rfl, .ty "bool", ty, hk, k0⟩
theorem ok_as_kept (F : Fun Z.K "as_kept" "as_kept" s_as_kept f fd) (T : ShT Z C) (M : ShM Z C) : Z.ok CX0 6 f fd ["field", "value"] (spKept C) := by
  refine F.ok sc_as_kept (fun vs H Q E h => ?_) (fun cdv A outer s H vs Q E hr h => ?_)
  · obtain ⟨x, v, rfl, _⟩ := h
    rfl
  · obtain ⟨x, v, rfl, h⟩ := h
    refine ⟨_, (pss_cons (ps_if (PW.pt (pw_or (pt_cmpR op_eq (pv 0) pe_str (nomark _)) (pw_or1 (pt_cmpR op_eq (pv 0) pe_str (nomark _)))))
      (pss_one (ps_ret (pe_op (op_num (op := .Add) M.add M.na hr pass0) (pe_calC M.new1 (hr.mono (by decide)) (by rfl) pass0 (pa_cons pe_int pa_nil)) (pv 1))))
      pss_nil)
      (pss_cons (ps_if (PW.pt (pw_and (pt_cmpR op_eq (pv 0) pe_str (nomark _)) (pw_and1 (pt_cmpR op_eq (pe_ix ix_seq (pv 1) pe_int (fun _ _ => rfl)) pe_str (nomark _)))))
      (pss_one (ps_ret (pe_tup (pa_cons pe_str (pa_cons (pe_op (op_num (op := .Add) M.add M.na hr pass0) (pe_calC M.new1 (hr.mono (by decide)) (by rfl) pass0 (pa_cons pe_int pa_nil)) (pe_ix ix_tup (pv 1) pe_int (fun _ _ => rfl))) pa_nil)))))
      pss_nil)
      (pss_one (ps_ret (pv 1))))), ?_⟩
    have sum : ∀ {w : V} {q : Int × Int} {H1 : Hp} {Q1 : VK}, Nb C H1 w q → Sz 100 q → Lw q → (∀ w' H', Same H1 H' → Sh C H' w' q → Q1 w' H') → ∀ {x : V}, Sh C H1 x (Ps.low 0 1) → rNum C (spBin C 4000 gAdd) E0 x w H1 Q1 := fun {w q H1 Q1} hw hz hl kk {x} hx => by
      refine ⟨hx.ins, hw.num, x, w, _, q, rfl, hx, hw, ⟨by decide +kernel, by decide +kernel, by decide +kernel⟩, hz.up (by decide), fun w' H' e hw' => kk w' H' e ?_⟩
      rw [gAdd_zero hl] at hw'
      exact hw'
    rcases h with ⟨hx, q, hq, hz, hl, k⟩ | ⟨rfl, h⟩ | ⟨hx, k⟩
    · simp only [List.mem_cons, List.not_mem_nil, or_false] at hx
      have main : ∀ xa dx, H xa = none → H dx = none → dx ≠ xa → spShInit C [.ref xa, .int 0, .int 1] (upd (upd H dx (.own xa)) xa (.ins C dx [])) (fun v H2 => v = .non ∧ ∃ y, (start ["field", "value"] [.str x, v])[1]? = some (some y) ∧ True) E0 → True := fun _ _ _ _ _ _ => trivial
      rcases hx with rfl | rfl
      · refine ⟨_, rfl, rfl, _, rfl, iteT ?_⟩
        intro xa dx hxa hdx hne
        refine mk_shI (by decide) (by decide +kernel) hxa hdx hne fun H1 e1 z1 => ⟨rfl, _, rfl, ?_⟩
        exact sum (hq.mono e1) hz hl (fun w' H' e hw => k w' H' (e1.trans e) hw) z1
      · refine ⟨_, rfl, rfl, _, rfl, iteF ⟨_, rfl, rfl, _, rfl, iteT ?_⟩⟩
        intro xa dx hxa hdx hne
        refine mk_shI (by decide) (by decide +kernel) hxa hdx hne fun H1 e1 z1 => ⟨rfl, _, rfl, ?_⟩
        exact sum (hq.mono e1) hz hl (fun w' H' e hw => k w' H' (e1.trans e) hw) z1
    · refine ⟨_, rfl, rfl, _, rfl, iteF ⟨_, rfl, rfl, _, rfl, iteF ?_⟩⟩
      rcases h with ⟨rfl, k⟩ | ⟨a, i, rfl, ha, k⟩ | ⟨a, w, q, rfl, ha, hw, hz, hl, k⟩
      · refine ⟨_, rfl, rfl, _, rfl, iteT ?_⟩
        refine ⟨_, rfl, .inr (.inr ⟨_, _, _, rfl, rfl, (by decide +kernel), rfl, rfl, _, rfl, iteF ?_⟩)⟩
        exact ⟨_, rfl, k⟩
      · refine ⟨_, rfl, rfl, _, rfl, iteT ?_⟩
        refine ⟨_, rfl, .inr (.inl ⟨a, _, _, _, rfl, rfl, SqT.of ha, rfl, rfl, _, rfl, iteF ?_⟩)⟩
        exact ⟨_, rfl, k⟩
      · refine ⟨_, rfl, rfl, _, rfl, iteT ?_⟩
        refine ⟨_, rfl, .inr (.inl ⟨a, _, _, _, rfl, rfl, SqT.of ha, rfl, rfl, _, rfl, iteT ?_⟩)⟩
        intro xa dx hxa hdx hne
        refine mk_shI (by decide) (by decide +kernel) hxa hdx hne fun H1 e1 z1 => ⟨rfl, _, rfl, a, _, _, _, rfl, rfl, SqT.of (e1 _ _ ha), rfl, ?_⟩
        refine sum (hw.mono e1) hz hl (fun w' H' e hw' => ?_) z1
        refine ⟨(by show 2 ≤ sizeLine; decide), fun t ht => ?_⟩
        exact k t w' _ ((e1.trans e).trans (Same.upd ht)) ((e1.trans e).free ht) upd_same (hw'.mono (Same.upd ht))
    · simp only [List.mem_cons, List.not_mem_nil, or_false] at hx
      rcases hx with rfl | rfl | rfl | rfl <;> exact ⟨_, rfl, rfl, _, rfl, iteF ⟨_, rfl, rfl, _, rfl, iteF ⟨_, rfl, rfl, _, rfl, iteF ⟨_, rfl, k⟩⟩⟩⟩
end
end Ps

/-! Books: a book is made; its properties. -/
namespace Ps
open PySem PySem.Spec PyProof.Rows PySem.W L2

/-- the class of books -/
structure BkC (Z : Cz) (CB : Addr) : Prop where
  cl : Cls Z.K CB
  nS : NoAttr Z.K CB "settings"
  mg : Z.mg "Book" = some (.ref CB)
theorem stF_nodup : stF.Nodup := by decide +kernel
def zipK (n : Nat) (ws : List V) : List (Key × V) := ((stF.take n).zip ws).map fun p => (Sum.inr p.1, p.2)
theorem zipK_put {i : Nat} {x : Str} {ws : List V} {w : V} (hx : stF[i]? = some x) (hl : ws.length = i) : putK (zipK i ws) (.inr x) w = zipK (i + 1) (ws ++ [w]) := by
  have hi := (List.getElem?_eq_some_iff.mp hx).1
  have hlt : (stF.take i).length = ws.length := by rw [List.length_take]; omega
  have e1 : stF.take (i + 1) = stF.take i ++ [x] := by rw [List.take_succ, hx]; rfl
  have hn : valV (zipK i ws) (.inr x) = none := by
    have hno : ∀ kv ∈ zipK i ws, ¬ kv.1 = Sum.inr x := by
      intro kv hm he
      unfold zipK at hm
      obtain ⟨p, hp, rfl⟩ := List.mem_map.mp hm
      have hpx : p.1 = x := Sum.inr.inj he
      have h1 := (List.of_mem_zip hp).1
      rw [hpx] at h1
      have hnd : (stF.take i ++ [x]).Nodup := by
        rw [← e1]
        exact List.Sublist.nodup (List.take_sublist _ _) stF_nodup
      exact (List.nodup_append.mp hnd).2.2 x h1 x (by simp) rfl
    unfold valV
    rw [List.find?_eq_none.mpr (fun kv hm => by simpa using hno kv hm)]
    rfl
  rw [putK_new _ hn]
  unfold zipK
  rw [e1, List.zip_append hlt, List.map_append]
  rfl
/-- the i-th kept setting of b -/
def KpR (C : Addr) (H : Hp) (b : Bk) : Nat → V → Prop
  | 0, w => w = trV b.tries
  | 1, w => Sh C H w b.told
  | 2, w => Sh C H w b.factor
  | 3, w => w = .bl b.equal
  | 4, w => w = .bl b.sliding
  | 5, w => AfV C H w b.after
  | 6, w => w = .bl b.keep
  | _, _ => False
theorem KpR.mono {C : Addr} {H H' : Hp} {b : Bk} (e : Same H H') {i : Nat} {w : V} (h : KpR C H b i w) : KpR C H' b i w := by
  rcases i with _ | _ | _ | _ | _ | _ | _ | i
  · exact h
  · exact Sh.mono e h
  · exact Sh.mono e h
  · exact h
  · exact h
  · exact AfV.mono e h
  · exact h
  · exact h
/-- what a book may be made of -/
structure BkArg (C : Addr) (H : Hp) (vo vf va : V) (b : Bk) : Prop where
  ok : BkOk b
  told : Nb C H vo b.told
  factor : Nb C H vf b.factor
  after : AfA C H va b.after
theorem BkArg.mono {C : Addr} {H H' : Hp} {vo vf va : V} {b : Bk} (e : Same H H') (h : BkArg C H vo vf va b) : BkArg C H' vo vf va b := ⟨h.ok, h.told.mono e, h.factor.mono e, h.after.mono e⟩
def spBook (C CB : Addr) : Sp := fun vs H Q _ => ∃ x dx vo vf va b, vs = [.ref x, trV b.tries, vo, vf, .bl b.equal, .bl b.sliding, va, .bl b.keep] ∧ H x = some (.ins CB dx []) ∧ BkArg C H vo vf va b ∧
  ∀ d H', Keep x H H' → H' x = some (.ins CB dx [("settings", .ref d)]) → Sts C H' d b → Q .non H'
theorem tr_setting {K : Frag} {C : Addr} {H : Hp} {b : Bk} (h : BkOk b) : StB K C H "tries" (trV b.tries) true := by
  cases ht : b.tries with
  | none => exact .triesN
  | some i =>
    obtain ⟨h1, h2⟩ := h.tr i ht
    have := StB.triesI (K := K) (C := C) (H := H) i
    rw [decide_eq_true h1, decide_eq_true h2] at this
    exact this
theorem ab_true {K : Frag} {C : Addr} {H : Hp} {v : V} {q : Int × Int} (h : Nb C H v q) (hz : Sz 100 q) (hp : 0 < q.1) : AbB K C H v true := .inl ⟨q, h, hz, (decide_eq_true hp).symm⟩
theorem af_setting {K : Frag} {C : Addr} {H : Hp} {v : V} {af : Af} (h : AfA C H v af) (ho : AfOk af) : AfB K C H v true := by
  cases af with
  | ever =>
    obtain rfl : v = .str "ever" := h
    exact .str "ever"
  | doubt q =>
    obtain ⟨a, w, rfl, ha, hw⟩ := h
    exact .doubt ha (ab_true hw ho.2.1 ho.2.2)
  | look i =>
    obtain ⟨a, rfl, ha⟩ := h
    have := AfB.look (K := K) (C := C) ha
    rw [decide_eq_true ho.1, decide_eq_true ho.2] at this
    exact this
/-- the i-th given setting -/
theorem set_i {K : Frag} {C : Addr} {H : Hp} {vo vf va : V} {b : Bk} (h : BkArg C H vo vf va b) {i : Nat} {x : Str} (hx : stF[i]? = some x) : ∃ v, valV (stL (trV b.tries) vo vf (.bl b.equal) (.bl b.sliding) va (.bl b.keep)) (.inr x) = some v ∧ StB K C H x v true := by
  have hm := List.mem_of_getElem? hx
  simp only [stF, List.mem_cons, List.not_mem_nil, or_false] at hm
  rcases hm with rfl | rfl | rfl | rfl | rfl | rfl | rfl
  · exact ⟨_, st_tries .., tr_setting h.ok⟩
  · exact ⟨_, st_told .., .told (ab_true h.told h.ok.tz h.ok.tp)⟩
  · have := StB.factor (K := K) h.factor h.ok.fz
    rw [decide_eq_true h.ok.fp] at this
    exact ⟨_, st_factor .., this⟩
  · exact ⟨_, st_equal .., .flag (by simp) _⟩
  · exact ⟨_, st_sliding .., .flag (by simp) _⟩
  · exact ⟨_, st_after .., .after (af_setting h.after h.ok.af)⟩
  · exact ⟨_, st_keep .., .flag (by simp) _⟩
/-- the i-th setting is kept -/
theorem kept_i {C : Addr} {H : Hp} {vo vf va : V} {b : Bk} (h : BkArg C H vo vf va b) {i : Nat} {x : Str} (hx : stF[i]? = some x) {Q : VK} {E : XK} (k : ∀ w H', Same H H' → KpR C H' b i w → Q w H') : ∃ v, valV (stL (trV b.tries) vo vf (.bl b.equal) (.bl b.sliding) va (.bl b.keep)) (.inr x) = some v ∧ spKept C [.str x, v] H Q E := by
  rcases i with _ | _ | _ | _ | _ | _ | _ | i
  · obtain rfl := Option.some.inj hx
    exact ⟨_, st_tries .., _, _, rfl, .inr (.inr ⟨by simp, k _ H (Same.refl _) rfl⟩)⟩
  · obtain rfl := Option.some.inj hx
    exact ⟨_, st_told .., _, _, rfl, .inl ⟨by simp, _, h.told, h.ok.tz, h.ok.tl, fun w H' e hw => k w H' e hw⟩⟩
  · obtain rfl := Option.some.inj hx
    exact ⟨_, st_factor .., _, _, rfl, .inl ⟨by simp, _, h.factor, h.ok.fz, h.ok.fl, fun w H' e hw => k w H' e hw⟩⟩
  · obtain rfl := Option.some.inj hx
    exact ⟨_, st_equal .., _, _, rfl, .inr (.inr ⟨by simp, k _ H (Same.refl _) rfl⟩)⟩
  · obtain rfl := Option.some.inj hx
    exact ⟨_, st_sliding .., _, _, rfl, .inr (.inr ⟨by simp, k _ H (Same.refl _) rfl⟩)⟩
  · obtain rfl := Option.some.inj hx
    refine ⟨_, st_after .., _, _, rfl, .inr (.inl ⟨rfl, ?_⟩)⟩
    have ha := h.after
    have ho := h.ok.af
    cases haf : b.after with
    | ever =>
      rw [haf] at ha
      obtain rfl : va = .str "ever" := ha
      exact .inl ⟨rfl, k _ H (Same.refl _) (by show AfV C H _ b.after; rw [haf]; exact rfl)⟩
    | doubt q =>
      rw [haf] at ha ho
      obtain ⟨a, w, rfl, h1, h2⟩ := ha
      exact .inr (.inr ⟨a, w, q, rfl, h1, h2, ho.2.1, ho.1, fun t w' H' e _ ht hw => k _ H' e (by show AfV C H' _ b.after; rw [haf]; exact ⟨t, w', rfl, ht, hw⟩)⟩)
    | look i =>
      rw [haf] at ha
      obtain ⟨a, rfl, h1⟩ := ha
      exact .inr (.inl ⟨a, i, rfl, h1, k _ H (Same.refl _) (by show AfV C H _ b.after; rw [haf]; exact ⟨a, rfl, h1⟩)⟩)
  · obtain rfl := Option.some.inj hx
    exact ⟨_, st_keep .., _, _, rfl, .inr (.inr ⟨by simp, k _ H (Same.refl _) rfl⟩)⟩
  · exact absurd (List.getElem?_eq_some_iff.mp hx).1 (by show ¬ i + 7 < 7; omega)
theorem vec7 {ws : List V} (h : ws.length = 7) : ∃ a b c d e f g, ws = [a, b, c, d, e, f, g] := by
  match ws, h with
  | [a, b, c, d, e, f, g], _ => exact ⟨a, b, c, d, e, f, g, rfl⟩
section
variable {Z : Cz} {f C CB : Addr} {fd : FuncData}
abbrev CSetting (Z : Cz) (C : Addr) : Prop := Cal Z CX0 9 "is_setting" ["field", "value"] [] (spSetting Z.K C)
abbrev CKept (Z : Cz) (C : Addr) : Prop := Cal Z CX0 6 "as_kept" ["field", "value"] [] (spKept C)
theorem ok_Book {kws : List (Str × V)} (F : FunD Z.K "__init__" "Book.__init__" (defArgs s_Book_dd_init) (defBody s_Book_dd_init) (defScope s_Book_dd_init) [] kws f fd) (B : BkT Z) (K : BkC Z CB) (c_is_setting : CSetting Z C) (c_as_kept : CKept Z C) :
    Z.ok CX0 10 f fd ["self", "tries", "told", "factor", "equal", "sliding", "after", "keep"] (spBook C CB) := by
  refine FunD.ok F sc_Book_dd_init (fun vs H Q E h => ?_) (fun cdv A outer s H vs Q E hr h => ?_)
  · obtain ⟨x, dx, vo, vf, va, b, rfl, _⟩ := h
    rfl
  · obtain ⟨x, dx, vo, vf, va, b, rfl, hx, ha, k⟩ := h
    obtain ⟨aF, gF, sF⟩ := B.fields
    refine ⟨_, PSs.nox (pss_cons (ps_set (i := 8) sc_Book_dd_init.nd rfl (Or.inr rfl) (pe_disp (pps_cons pe_str (pv 1) (pps_cons pe_str (pv 2) (pps_cons pe_str (pv 3) (pps_cons pe_str (pv 4) (pps_cons pe_str (pv 5) pps_nil))))) (by rfl) (by rfl) (fun z => by cases z) (by decide)))
      (pss_cons (ps_set (i := 8) sc_Book_dd_init.nd rfl (Or.inr rfl) (pe_dispM (pv 8) (pps_cons pe_str (pv 6) (pps_cons pe_str (pv 7) pps_nil)) (by rfl) (by rfl) (fun z => by cases z) (by decide)))
      (pss_cons (ps_for PassesOwn.never rfl (pi_tup (pe_glob (v := .ref aF) rfl gF rfl)) (pg_name (i := 9) sc_Book_dd_init.nd rfl (Or.inl rfl))
      (pss_one (ps_if (pt_not (pt_val (pe_cal c_is_setting (hr.mono (by decide)) (by rfl) pass0 (pa_cons (pv 9) (pa_cons (pe_dget (hu_of hr) (pv 8) (pv 9) (fun _ _ => rfl)) pa_nil)))))
        (pss_one ps_never)
        pss_nil)))
      (pss_one (ps_fld (pv 0) (pe_dc (own := [("field", 9)]) (g := gName 9) (tt := tYes) (by rfl) sc_Book_dd_init.nd (pi_tup (pe_glob (v := .ref aF) rfl gF rfl)) (blkOk_by (own := [("field", 9)]) (N := ["self", "tries", "told", "factor", "equal", "sliding", "after", "keep", "given", "field"]) (sc := defScope s_Book_dd_init) (by decide +kernel)) (fun _ _ _ _ _ => (pg_name (i := 9) sc_Book_dd_init.nd rfl (Or.inl rfl))) (fun _ _ _ _ _ => pts_nil) (fun _ _ _ _ _ => (pv 9)) (fun _ _ _ _ _ => (pe_cal c_as_kept (hr.mono (by decide)) (by rfl) pass0 (pa_cons (pv 9) (pa_cons (pe_dget (hu_of hr) (pv 8) (pv 9) (fun _ _ => rfl)) pa_nil))))) rfl))))), ?_⟩
    intro p hp
    refine ⟨_, rfl, _, rfl, _, rfl, _, rfl, _, rfl, upd_same, [(.inr "tries", trV b.tries), (.inr "told", vo), (.inr "factor", vf), (.inr "equal", .bl b.equal), (.inr "sliding", .bl b.sliding)], rfl, (by show 5 ≤ 15; decide), ?_⟩
    have e1 : Same H (upd (upd H p (.dK [])) p (.dK (mergeK [] [(.inr "tries", trV b.tries), (.inr "told", vo), (.inr "factor", vf), (.inr "equal", .bl b.equal), (.inr "sliding", .bl b.sliding)]))) := fun c o h => by
      rw [upd_ne (ne_of_none h hp), upd_ne (ne_of_none h hp)]; exact h
    have hp1 : (upd (upd H p (.dK [])) p (.dK (mergeK [] [(.inr "tries", trV b.tries), (.inr "told", vo), (.inr "factor", vf), (.inr "equal", .bl b.equal), (.inr "sliding", .bl b.sliding)]))) p = some (.dK [(.inr "tries", trV b.tries), (.inr "told", vo), (.inr "factor", vf), (.inr "equal", .bl b.equal), (.inr "sliding", .bl b.sliding)]) := upd_same
    generalize (upd (upd H p (.dK [])) p (.dK (mergeK [] [(.inr "tries", trV b.tries), (.inr "told", vo), (.inr "factor", vf), (.inr "equal", .bl b.equal), (.inr "sliding", .bl b.sliding)]))) = H1 at e1 hp1
    intro p2 hp2
    have hne : p2 ≠ p := (ne_of_none hp1 hp2).symm
    refine ⟨_, rfl, p, _, rfl, .inl (by rw [upd_ne hne.symm]; exact hp1), upd_same, hne, (by show 5 ≤ 100; decide), fun q hq => ?_⟩
    have hq2 : p2 ≠ q := ne_of_none upd_same hq
    refine ⟨_, rfl, _, rfl, upd_same, (by rw [upd_ne hq2]; exact upd_same), hq2, [(.inr "after", va), (.inr "keep", .bl b.keep)], rfl, (by show 2 ≤ 15; decide), ?_⟩
    have hqH1 : H1 q = none := by
      rw [upd_ne hq2.symm, upd_ne hq2.symm] at hq
      exact hq
    show tSeq _ _ _ _ (upd (upd (upd (upd (upd H1 p2 (.dK [])) p2 (.dK _)) q (.dK [])) q (.dK _)) p2 (.dK (stL (trV b.tries) vo vf (.bl b.equal) (.bl b.sliding) va (.bl b.keep))))
    have e2 : ∀ o1 o2 o3 o4 o5, Same H1 (upd (upd (upd (upd (upd H1 p2 o1) p2 o2) q o3) q o4) p2 o5) := fun o1 o2 o3 o4 o5 c o h => by
      rw [upd_ne (ne_of_none h hp2), upd_ne (ne_of_none h hqH1), upd_ne (ne_of_none h hqH1), upd_ne (ne_of_none h hp2), upd_ne (ne_of_none h hp2)]
      exact h
    have hp3 : ∀ o1 o2 o3 o4 o5, (upd (upd (upd (upd (upd H1 p2 o1) p2 o2) q o3) q o4) p2 o5) p2 = some o5 := fun _ _ _ _ _ => upd_same
    generalize hH3 : (upd (upd (upd (upd (upd H1 p2 (.dK [])) p2 (.dK _)) q (.dK [])) q (.dK _)) p2 (.dK (stL (trV b.tries) vo vf (.bl b.equal) (.bl b.sliding) va (.bl b.keep)))) = H3
    have e3 : Same H H3 := by rw [← hH3]; exact e1.trans (e2 _ _ _ _ _)
    have hg : H3 p2 = some (.dK (stL (trV b.tries) vo vf (.bl b.equal) (.bl b.sliding) va (.bl b.keep))) := by rw [← hH3]; exact hp3 _ _ _ _ _
    clear hH3 hp3 e2
    have ha3 := ha.mono e3
    have sl : ∀ H', SqT Z.K H' aF (stF.map V.str) := sF
    -- the tests
    refine ⟨aF, rfl, ⟨_, sF H3⟩, for_tup (K := Z.K) (a := aF) (xs := stF.map V.str) (fun i σ H' => ∃ o, σ = [some (.ref x), some (trV b.tries), some vo, some vf, some (.bl b.equal), some (.bl b.sliding), some va, some (.bl b.keep), some (.ref p2), o] ∧ Same H3 H') ⟨_, rfl, Same.refl _⟩ (fun i σ H' _ _ => sl H') ?_ ?_⟩
    · rintro i y σ H4 hy ⟨o, rfl, e4⟩
      rw [List.getElem?_map] at hy
      obtain ⟨z, hz, rfl⟩ := Option.map_eq_some_iff.mp hy
      obtain ⟨v, hv, hs⟩ := set_i (K := Z.K) (ha3.mono e4) hz
      have hd : DGet H4 p2 (.str z) (some v) := by rw [← hv]; exact DGet.k (k := .inr z) (e4 _ _ hg)
      refine ⟨_, rfl, _, rfl, _, rfl, p2, v, rfl, hd, z, v, true, rfl, hs, fun H5 e5 => ?_⟩
      exact ⟨_, rfl, iteF ⟨_, rfl, e4.trans e5⟩⟩
    rintro σ H4 ⟨o, rfl, e4⟩
    have ha4 := ha3.mono e4
    have hg4 := e4 _ _ hg
    -- the settings
    refine ⟨aF, rfl, ⟨_, sF H4⟩, fun D hD => ?_⟩
    refine dc_tup (K := Z.K) (a := aF) (xs := stF.map V.str) (fun i H' => ∃ ws : List V, ws.length = i ∧ H' D = some (.dK (zipK i ws)) ∧ (∀ j w, ws[j]? = some w → KpR C H' b j w) ∧ Same H4 H') ⟨[], rfl, upd_same, (fun j w h => by simp at h), Same.upd hD⟩ (fun i H' _ _ => sl H') ?_ ?_
    · rintro i y H5 hy ⟨ws, hl, hD5, hw, e5⟩
      rw [List.getElem?_map] at hy
      obtain ⟨z, hz, rfl⟩ := Option.map_eq_some_iff.mp hy
      refine ⟨rfl, ?_⟩
      have hi : i < 7 := (List.getElem?_eq_some_iff.mp hz).1
      obtain ⟨v, hv, hs⟩ := kept_i (E := E0) (Q := fun w H6 => ∃ kvs k, V.str z = kV k ∧ H6 D = some (.dK kvs) ∧ kvs.length < sizeLine ∧ ∃ ws : List V, ws.length = i + 1 ∧ (upd H6 D (.dK (putK kvs k w))) D = some (.dK (zipK (i + 1) ws)) ∧ (∀ j w', ws[j]? = some w' → KpR C (upd H6 D (.dK (putK kvs k w))) b j w') ∧ Same H4 (upd H6 D (.dK (putK kvs k w)))) (ha4.mono e5) hz fun w H6 e6 hk => by
        refine ⟨zipK i ws, .inr z, rfl, e6 _ _ hD5, ?_, ws ++ [w], ?_, ?_, ?_, ?_⟩
        · unfold zipK
          rw [List.length_map, List.length_zip, List.length_take]
          exact small1000' (by omega)
        · rw [List.length_append, hl]; rfl
        · rw [upd_same, zipK_put hz hl]
        · have ek : ∀ {j : Nat} {w' : V}, KpR C H6 b j w' → KpR C (upd H6 D (.dK (putK (zipK i ws) (.inr z) w))) b j w' := fun {j w'} h => by
            have nd : Nd H6 (upd H6 D (.dK (putK (zipK i ws) (.inr z) w))) := fun c o hc hn => by
              rw [upd_ne (fun hz => by rw [hz, e6 _ _ hD5] at hc; exact hn _ (Option.some.inj hc).symm)]
              exact hc
            have sh : ∀ {v : V} {q : Int × Int}, Sh C H6 v q → Sh C (upd H6 D (.dK (putK (zipK i ws) (.inr z) w))) v q := fun {v q} ⟨a, dx, h1, h2⟩ => ⟨a, dx, h1, nd _ _ h2 (fun _ z => nomatch z)⟩
            rcases j with _ | _ | _ | _ | _ | _ | _ | j
            · exact h
            · exact sh h
            · exact sh h
            · exact h
            · exact h
            · show AfV C _ _ b.after
              have h : AfV C H6 w' b.after := h
              cases haf : b.after with
              | ever => rw [haf] at h; exact h
              | doubt q => rw [haf] at h; obtain ⟨a, w2, h1, h2, h3⟩ := h; exact ⟨a, w2, h1, nd _ _ h2 (fun _ z => nomatch z), sh h3⟩
              | look i => rw [haf] at h; obtain ⟨a, h1, h2⟩ := h; exact ⟨a, h1, nd _ _ h2 (fun _ z => nomatch z)⟩
            · exact h
            · exact h
          intro j w' hj
          by_cases hjl : j < ws.length
          · rw [List.getElem?_append_left hjl] at hj
            exact ek ((hw j w' hj).mono e6)
          · rw [List.getElem?_append_right (by omega)] at hj
            have hj0 : j = ws.length := by
              have := (List.getElem?_eq_some_iff.mp hj).1
              simp at this
              omega
            subst hj0
            simp at hj
            subst hj
            rw [hl]
            exact ek hk
        · intro c o hc
          rw [upd_ne (ne_of_none hc hD)]
          exact e6 _ _ (e5 _ _ hc)
      have hd : DGet H5 p2 (.str z) (some v) := by rw [← hv]; exact DGet.k (k := .inr z) (e5 _ _ hg4)
      exact ⟨_, rfl, _, rfl, _, rfl, _, rfl, p2, v, rfl, hd, hs⟩
    · rintro H5 ⟨ws, hl, hD5, hw, e5⟩
      have hl : ws.length = 7 := hl
      obtain ⟨w0, w1, w2, w3, w4, w5, w6, rfl⟩ := vec7 hl
      have h0 : w0 = trV b.tries := hw 0 _ rfl
      have h3 : w3 = .bl b.equal := hw 3 _ rfl
      have h4 : w4 = .bl b.sliding := hw 4 _ rfl
      have h6 : w6 = .bl b.keep := hw 6 _ rfl
      subst h0 h3 h4 h6
      have e05 : Same H H5 := (e3.trans e4).trans e5
      refine ⟨_, rfl, x, CB, dx, [], rfl, e05 _ _ hx, K.cl, K.nS, (by show 0 < 1000; decide), ?_⟩
      have nd : ∀ c o, H5 c = some o → (∀ dx fs, o ≠ .ins CB dx fs) ∨ c ≠ x → (upd H5 x (.ins CB dx (putF "settings" (.ref D) []))) c = some o := fun c o hc hn => by
        have : c ≠ x := by
          rcases hn with hn | hn
          · intro z
            rw [z, e05 _ _ hx] at hc
            exact hn _ _ (Option.some.inj hc).symm
          · exact hn
        rw [upd_ne this]
        exact hc
      have hDx : D ≠ x := fun z => by
        rw [z, e05 _ _ hx] at hD5
        cases hD5
      have shx : ∀ {v : V} {q : Int × Int}, Sh C H5 v q → Sh C (upd H5 x (.ins CB dx (putF "settings" (.ref D) []))) v q := fun {v q} ⟨a, dy, h1, h2⟩ => ⟨a, dy, h1, nd _ _ h2 (.inr fun z => by
        rw [z, e05 _ _ hx] at h2
        cases h2)⟩
      refine k D _ (fun c hc o ho => by rw [upd_ne hc]; exact e05 _ _ ho) upd_same ⟨w1, w2, w5, ?_, shx (hw 1 _ rfl), shx (hw 2 _ rfl), ?_⟩
      · rw [upd_ne hDx]
        exact hD5
      · have h : AfV C H5 w5 b.after := hw 5 _ rfl
        cases haf : b.after with
        | ever => rw [haf] at h; exact h
        | doubt q => rw [haf] at h; obtain ⟨a, w2, h1, h2, h3⟩ := h; exact ⟨a, w2, h1, nd _ _ h2 (.inl fun _ _ z => nomatch z), shx h3⟩
        | look i => rw [haf] at h; obtain ⟨a, h1, h2⟩ := h; exact ⟨a, h1, nd _ _ h2 (.inl fun _ _ z => nomatch z)⟩
end
end Ps

/-! Books: ==, properties. -/
namespace Ps
open PySem PySem.Spec PyProof.Rows PySem.W L2

/-- what may stand in a tuple of a setting -/
def dIn (C : Addr) : Eqb := fun x y b H => DFl x y b H ∨ DOwn C (shR C) x y b H
/-- what may be a setting -/
def dB (K : Frag) (C : Addr) : Eqb := fun x y b H => dIn C x y b H ∨ (DFT K x y b H ∨ DTupB K (dIn C) x y b H)
theorem mon_in {C : Addr} : MonB (dIn C) := MonB.or mon_fl (mon_own mon_shR)
theorem mon_dB {K : Frag} {C : Addr} : MonB (dB K C) := MonB.or mon_in (MonB.or mon_ft (mon_tupB mon_in))
section
variable {Z : Cz} {X : Cx} {C : Addr}
theorem eqB_in (M : ShM Z C) (z : InZ Z X) : EqB X 6 (dIn C) := EqB.or (eqB_fl.mono (Nat.zero_le _)) (eqB_own M.eq sh_sp z)
theorem eqB_dB (M : ShM Z C) (z : InZ Z X) : EqB X 7 (dB Z.K C) := by
  have h2 := eqB_ft (X := X)
  have h3 := eqB_tup (X := X) mon_in (eqB_in M z)
  rw [z.K] at h2 h3
  exact EqB.or ((eqB_in M z).mono (by decide)) (EqB.or (h2.mono (Nat.zero_le _)) h3)
end
theorem eqV_tr (a b : Option Int) : eqV (trV a) (trV b) = decide (a = b) := by
  cases a with
  | none =>
    cases b with
    | none => rfl
    | some j => rfl
  | some i =>
    cases b with
    | none => rfl
    | some j =>
      show (i == j) = _
      by_cases h : i = j
      · subst h; simp
      · have : ¬ (some i = some j) := fun z => h (Option.some.inj z)
        rw [decide_eq_false this]
        simpa using h
theorem eqV_bl (a b : Bool) : eqV (.bl a) (.bl b) = decide (a = b) := by cases a <;> cases b <;> rfl
theorem flat_tr (a : Option Int) : flatV (trV a) = true := by cases a <;> rfl
theorem af_eq {K : Frag} {C : Addr} {H : Hp} {v w : V} {a1 a2 : Af} (h1 : AfV C H v a1) (h2 : AfV C H w a2) (o1 : AfOk a1) (o2 : AfOk a2) : dB K C v w (decide (a1 = a2)) H := by
  cases a1 with
  | ever =>
    obtain rfl : v = .str "ever" := h1
    cases a2 with
    | ever =>
      obtain rfl : w = .str "ever" := h2
      exact .inl (.inl ⟨rfl, rfl, rfl⟩)
    | doubt q =>
      obtain ⟨a, x, rfl, ha, _⟩ := h2
      exact .inr (.inl ⟨rfl, _, a, _, SqT.of ha, .inl ⟨rfl, rfl⟩⟩)
    | look i =>
      obtain ⟨a, rfl, ha⟩ := h2
      exact .inr (.inl ⟨rfl, _, a, _, SqT.of ha, .inl ⟨rfl, rfl⟩⟩)
  | doubt q =>
    obtain ⟨a, x, rfl, ha, hx⟩ := h1
    cases a2 with
    | ever =>
      obtain rfl : w = .str "ever" := h2
      exact .inr (.inl ⟨rfl, _, a, _, SqT.of ha, .inr ⟨rfl, rfl⟩⟩)
    | doubt r =>
      obtain ⟨c, y, rfl, hc, hy⟩ := h2
      have e : decide (Af.doubt q = Af.doubt r) = decide (gMin q r = 0) := decide_eq_decide.mpr ⟨fun z => (gMin_eq o1.1 o2.1).mpr (Af.doubt.inj z), fun z => by rw [(gMin_eq o1.1 o2.1).mp z]⟩
      rw [e]
      refine .inr (.inr ⟨a, c, _, _, rfl, rfl, SqT.of ha, SqT.of hc, .yes (.inl ⟨rfl, rfl, rfl⟩) ?_, fun z => ?_⟩)
      · cases hb : decide (gMin q r = 0) with
        | false => exact .no (.inr (hb ▸ own_sh hx hy (o1.2.1.up (by decide)) (o2.2.1.up (by decide))))
        | true => exact .yes (.inr (hb ▸ own_sh hx hy (o1.2.1.up (by decide)) (o2.2.1.up (by decide)))) .nil
      · subst z
        rw [ha] at hc
        have hxy := HO.tup.inj (Option.some.inj hc)
        simp only [List.cons.injEq, true_and, and_true] at hxy
        subst hxy
        rw [hx.inj hy]
        exact decide_eq_true (by unfold gMin; omega)
    | look i =>
      obtain ⟨c, rfl, hc⟩ := h2
      refine .inr (.inr ⟨a, c, _, _, rfl, rfl, SqT.of ha, SqT.of hc, .no (.inl ⟨rfl, rfl, rfl⟩), fun z => ?_⟩)
      subst z
      rw [ha] at hc
      cases hc
  | look i =>
    obtain ⟨a, rfl, ha⟩ := h1
    cases a2 with
    | ever =>
      obtain rfl : w = .str "ever" := h2
      exact .inr (.inl ⟨rfl, _, a, _, SqT.of ha, .inr ⟨rfl, rfl⟩⟩)
    | doubt r =>
      obtain ⟨c, y, rfl, hc, hy⟩ := h2
      refine .inr (.inr ⟨a, c, _, _, rfl, rfl, SqT.of ha, SqT.of hc, .no (.inl ⟨rfl, rfl, rfl⟩), fun z => ?_⟩)
      subst z
      rw [ha] at hc
      cases hc
    | look j =>
      obtain ⟨c, rfl, hc⟩ := h2
      have e : decide (Af.look i = Af.look j) = decide (i = j) := decide_eq_decide.mpr ⟨Af.look.inj, fun z => by rw [z]⟩
      have e2 : eqV (.int i) (.int j) = decide (i = j) := by
        show (i == j) = _
        by_cases h : i = j
        · subst h; simp
        · rw [decide_eq_false h]; simpa using h
      rw [e]
      refine .inr (.inr ⟨a, c, _, _, rfl, rfl, SqT.of ha, SqT.of hc, .yes (.inl ⟨rfl, rfl, rfl⟩) ?_, fun z => ?_⟩)
      · cases hb : decide (i = j) with
        | false => exact .no (.inl ⟨rfl, rfl, by rw [e2, hb]⟩)
        | true => exact .yes (.inl ⟨rfl, rfl, by rw [e2, hb]⟩) .nil
      · subst z
        rw [ha] at hc
        have hxy := HO.tup.inj (Option.some.inj hc)
        simp only [List.cons.injEq, true_and, and_true, V.int.injEq] at hxy
        exact decide_eq_true hxy
theorem trV_inj {a b : Option Int} (h : trV a = trV b) : a = b := by
  cases a <;> cases b <;> simp [trV] at h ⊢
  exact h
theorem AfV.inj {C : Addr} {H : Hp} {v : V} {a1 a2 : Af} (h1 : AfV C H v a1) (h2 : AfV C H v a2) : a1 = a2 := by
  cases a1 with
  | ever =>
    obtain rfl : v = .str "ever" := h1
    cases a2 with
    | ever => rfl
    | doubt q => obtain ⟨a, x, e, _⟩ := h2; cases e
    | look i => obtain ⟨a, e, _⟩ := h2; cases e
  | doubt q =>
    obtain ⟨a, x, rfl, ha, hx⟩ := h1
    cases a2 with
    | ever => cases (show V.ref a = .str "ever" from h2)
    | doubt r =>
      obtain ⟨c, y, e, hc, hy⟩ := h2
      cases e
      rw [ha] at hc
      have hxy := HO.tup.inj (Option.some.inj hc)
      simp only [List.cons.injEq, true_and, and_true] at hxy
      subst hxy
      rw [hx.inj hy]
    | look i => obtain ⟨c, e, hc⟩ := h2; cases e; rw [ha] at hc; cases hc
  | look i =>
    obtain ⟨a, rfl, ha⟩ := h1
    cases a2 with
    | ever => cases (show V.ref a = .str "ever" from h2)
    | doubt r => obtain ⟨c, y, e, hc, hy⟩ := h2; cases e; rw [ha] at hc; cases hc
    | look j =>
      obtain ⟨c, e, hc⟩ := h2
      cases e
      rw [ha] at hc
      have hxy := HO.tup.inj (Option.some.inj hc)
      simp only [List.cons.injEq, true_and, and_true, V.int.injEq] at hxy
      rw [hxy]
theorem Sts.inj {C d : Addr} {H : Hp} {b c : Bk} (h1 : Sts C H d b) (h2 : Sts C H d c) : b = c := by
  obtain ⟨vo, vf, va, h1, s1, s2, s3⟩ := h1
  obtain ⟨wo, wf, wa, h2, t1, t2, t3⟩ := h2
  rw [h1] at h2
  have h := HO.dK.inj (Option.some.inj h2)
  unfold stL at h
  simp only [List.cons.injEq, Prod.mk.injEq, true_and, and_true, V.bl.injEq] at h
  obtain ⟨e1, rfl, rfl, e4, e5, rfl, e7⟩ := h
  obtain ⟨b1, b2, b3, b4, b5, b6, b7⟩ := b
  obtain ⟨c1, c2, c3, c4, c5, c6, c7⟩ := c
  have e1 := trV_inj e1
  have e2 := s1.inj t1
  have e3 := s2.inj t2
  have e6 := s3.inj t3
  simp only at e1 e2 e3 e4 e5 e6 e7
  subst e1 e2 e3 e4 e5 e6 e7
  rfl
theorem sts_eq {K : Frag} {C d e : Addr} {H : Hp} {b c : Bk} (h1 : Sts C H d b) (h2 : Sts C H e c) (o1 : BkOk b) (o2 : BkOk c) : (DDct (dB K C) (.ref d) (.ref e) (decide (b = c)) H) ∨ DDctS (.ref d) (.ref e) (decide (b = c)) H := by
  by_cases hde : d = e
  · subst hde
    have := h1.inj h2
    obtain ⟨_, _, _, hd, _⟩ := h1
    exact .inr ⟨d, _, rfl, rfl, hd, decide_eq_true this⟩
  · obtain ⟨vo, vf, va, hd, s1, s2, s3⟩ := h1
    obtain ⟨wo, wf, wa, he, t1, t2, t3⟩ := h2
    refine .inl ⟨d, e, _, _, rfl, rfl, hde, hd, he, .inr ⟨rfl, ?_⟩⟩
    have z1 := (own_sh s1 t1 (o1.tz.up (by decide)) (o2.tz.up (by decide)))
    have z2 := (own_sh s2 t2 (o1.fz.up (by decide)) (o2.fz.up (by decide)))
    have main := EqD.step (D := dB K C) (H := H) (st_tries (trV c.tries) wo wf (.bl c.equal) (.bl c.sliding) wa (.bl c.keep)) (.inl (.inl ⟨flat_tr b.tries, flat_tr c.tries, rfl⟩))
      (EqD.step (st_told ..) (.inl (.inr z1)) (EqD.step (st_factor ..) (.inl (.inr z2)) (EqD.step (v := .bl b.equal) (st_equal ..) (.inl (.inl ⟨rfl, rfl, rfl⟩)) (EqD.step (v := .bl b.sliding) (st_sliding ..) (.inl (.inl ⟨rfl, rfl, rfl⟩))
        (EqD.step (st_after ..) (af_eq s3 t3 o1.af o2.af) (EqD.step (v := .bl b.keep) (st_keep ..) (.inl (.inl ⟨rfl, rfl, rfl⟩)) .nil))))))
    have eb : decide (b = c) = (eqV (trV b.tries) (trV c.tries) && (decide (gMin b.told c.told = 0) && (decide (gMin b.factor c.factor = 0) && (eqV (.bl b.equal) (.bl c.equal) && (eqV (.bl b.sliding) (.bl c.sliding) && (decide (b.after = c.after) && (eqV (.bl b.keep) (.bl c.keep) && true))))))) := by
      rw [eqV_tr, eqV_bl, eqV_bl, eqV_bl]
      have g1 := gMin_eq o1.tl o2.tl
      have g2 := gMin_eq o1.fl o2.fl
      obtain ⟨b1, b2, b3, b4, b5, b6, b7⟩ := b
      obtain ⟨c1, c2, c3, c4, c5, c6, c7⟩ := c
      simp only at g1 g2
      refine Bool.eq_iff_iff.mpr ?_
      simp only [decide_eq_true_eq, Bool.and_eq_true, Bk.mk.injEq, g1, g2, and_true]
    rw [eb]
    exact main
section
variable {Z : Cz} {f C CB : Addr} {fd : FuncData}
/-- what is asked of the class of books by isinstance -/
structure BkI (Z : Cz) (CB : Addr) : Prop where
  ha : findIn Z.K (.ref CB) "__class__" = some (some (.builtin "object.__class__"))
  hn : specialIn Z.K (.builtin "object.__class__") "__get__" = some (some (.builtin "getset_descriptor.__get__"))
  htk : takesIn Z.K (.builtin "object.__class__") = some true
  hm : mroIn Z.K CB (.type "object") = some true
  kCC : kitOne Z.K (.ref CB) (.ref CB) = some true
  kIC : kitOne Z.K (.type "int") (.ref CB) = some false
  isi : Z.mg "isinstance" = none
def spBkEq (K : Frag) (C CB : Addr) : Sp := fun vs H Q _ => ∃ x y b, vs = [x, y] ∧ BkAt C CB H x b ∧ ((∃ c, BkAt C CB H y c ∧ ∀ H', Same H H' → Q (.bl (decide (b = c))) H') ∨ (∃ t, TyX K H y t ∧ kitOne K t (.ref CB) = some false ∧ Q (.bl false) H))
theorem ok_BkEq (F : Fun Z.K "__eq__" "Book.__eq__" s_Book_dd_eq f fd) (K : BkC Z CB) (J : BkI Z CB) (M : ShM Z C) : Z.ok CX0 9 f fd ["self", "other"] (spBkEq Z.K C CB) := by
  refine F.ok sc_Book_dd_eq (fun vs H Q E h => ?_) (fun cdv A outer s H vs Q E hr h => ?_)
  · obtain ⟨x, y, b, rfl, _⟩ := h
    rfl
  · obtain ⟨x, y, b, rfl, hx, h⟩ := h
    refine ⟨_, (pss_one (ps_ret (pe_and (pe_callB call_isi (by rfl) J.isi (by decide +kernel) (pa_cons (pv 1) (pa_cons (pe_glob (v := .ref CB) rfl K.mg rfl) pa_nil))) (pe_one (pe_cmpR (op_eqB (RcB.or (rcB_dct (n := 7) mon_dB (eqB_dB M ⟨rfl, rfl, rfl, rfl, rfl⟩)) (rcB_dctS.mono (by decide))) hr) (pe_fld (pv 0) rfl) (pe_fld (pv 1) rfl) (nomark _)))))), ?_⟩
    rcases h with ⟨c, hy, k⟩ | ⟨t, ty, hk, k⟩
    · obtain ⟨a, dx, d, rfl, ha, hs, ho⟩ := hx
      obtain ⟨a2, dx2, d2, rfl, ha2, hs2, ho2⟩ := hy
      refine ⟨_, rfl, _, _, _, _, true, rfl, .own CB, .base (.ins ha2 K.cl J.ha J.hn J.htk J.hm), J.kCC, _, rfl, iteT ?_⟩
      refine ⟨_, rfl, a, CB, dx, _, _, rfl, ha, K.cl, K.nS, rfl, _, rfl, a2, CB, dx2, _, _, rfl, ha2, K.cl, K.nS, rfl, ?_⟩
      exact ⟨_, sts_eq hs hs2 ho ho2, k⟩
    · exact ⟨_, rfl, _, _, _, _, false, rfl, .own CB, ty, hk, _, rfl, iteF k⟩
/-! properties -/
def spProp (C CB : Addr) (g : Bk → V → Hp → Prop) : Sp := fun vs H Q _ => ∃ x b, vs = [x] ∧ BkAt C CB H x b ∧ ∀ v, g b v H → Q v H
theorem ok_p_tries (F : Fun Z.K "tries" "Book.tries" s_Book_tries f fd) (K : BkC Z CB) : Z.ok CX0 1 f fd ["self"] (spProp C CB (fun b v H => v = trV b.tries)) := by
  refine F.ok sc_Book_tries (fun vs H Q E h => ?_) (fun cdv A outer s H vs Q E hr h => ?_)
  · obtain ⟨x, b, rfl, _⟩ := h
    rfl
  · obtain ⟨x, b, rfl, hx, k⟩ := h
    obtain ⟨a, dx, d, rfl, ha, ⟨vo, vf, va, hd, h1, h2, h3⟩, ho⟩ := hx
    refine ⟨_, (pss_one (ps_ret (pe_dget (hu_of hr) (pe_fld (pv 0) rfl) pe_str (fun _ _ => rfl)))), ?_⟩
    exact ⟨_, rfl, a, CB, dx, _, _, rfl, ha, K.cl, K.nS, rfl, d, _, rfl, DGet.k (k := .inr "tries") hd, k _ rfl⟩
theorem ok_p_told (F : Fun Z.K "told" "Book.told" s_Book_told f fd) (K : BkC Z CB) : Z.ok CX0 1 f fd ["self"] (spProp C CB (fun b v H => Sh C H v b.told)) := by
  refine F.ok sc_Book_told (fun vs H Q E h => ?_) (fun cdv A outer s H vs Q E hr h => ?_)
  · obtain ⟨x, b, rfl, _⟩ := h
    rfl
  · obtain ⟨x, b, rfl, hx, k⟩ := h
    obtain ⟨a, dx, d, rfl, ha, ⟨vo, vf, va, hd, h1, h2, h3⟩, ho⟩ := hx
    refine ⟨_, (pss_one (ps_ret (pe_dget (hu_of hr) (pe_fld (pv 0) rfl) pe_str (fun _ _ => rfl)))), ?_⟩
    exact ⟨_, rfl, a, CB, dx, _, _, rfl, ha, K.cl, K.nS, rfl, d, _, rfl, DGet.k (k := .inr "told") hd, k _ h1⟩
theorem ok_p_factor (F : Fun Z.K "factor" "Book.factor" s_Book_factor f fd) (K : BkC Z CB) : Z.ok CX0 1 f fd ["self"] (spProp C CB (fun b v H => Sh C H v b.factor)) := by
  refine F.ok sc_Book_factor (fun vs H Q E h => ?_) (fun cdv A outer s H vs Q E hr h => ?_)
  · obtain ⟨x, b, rfl, _⟩ := h
    rfl
  · obtain ⟨x, b, rfl, hx, k⟩ := h
    obtain ⟨a, dx, d, rfl, ha, ⟨vo, vf, va, hd, h1, h2, h3⟩, ho⟩ := hx
    refine ⟨_, (pss_one (ps_ret (pe_dget (hu_of hr) (pe_fld (pv 0) rfl) pe_str (fun _ _ => rfl)))), ?_⟩
    exact ⟨_, rfl, a, CB, dx, _, _, rfl, ha, K.cl, K.nS, rfl, d, _, rfl, DGet.k (k := .inr "factor") hd, k _ h2⟩
theorem ok_p_equal (F : Fun Z.K "equal" "Book.equal" s_Book_equal f fd) (K : BkC Z CB) : Z.ok CX0 1 f fd ["self"] (spProp C CB (fun b v H => v = .bl b.equal)) := by
  refine F.ok sc_Book_equal (fun vs H Q E h => ?_) (fun cdv A outer s H vs Q E hr h => ?_)
  · obtain ⟨x, b, rfl, _⟩ := h
    rfl
  · obtain ⟨x, b, rfl, hx, k⟩ := h
    obtain ⟨a, dx, d, rfl, ha, ⟨vo, vf, va, hd, h1, h2, h3⟩, ho⟩ := hx
    refine ⟨_, (pss_one (ps_ret (pe_dget (hu_of hr) (pe_fld (pv 0) rfl) pe_str (fun _ _ => rfl)))), ?_⟩
    exact ⟨_, rfl, a, CB, dx, _, _, rfl, ha, K.cl, K.nS, rfl, d, _, rfl, DGet.k (k := .inr "equal") hd, k _ rfl⟩
theorem ok_p_sliding (F : Fun Z.K "sliding" "Book.sliding" s_Book_sliding f fd) (K : BkC Z CB) : Z.ok CX0 1 f fd ["self"] (spProp C CB (fun b v H => v = .bl b.sliding)) := by
  refine F.ok sc_Book_sliding (fun vs H Q E h => ?_) (fun cdv A outer s H vs Q E hr h => ?_)
  · obtain ⟨x, b, rfl, _⟩ := h
    rfl
  · obtain ⟨x, b, rfl, hx, k⟩ := h
    obtain ⟨a, dx, d, rfl, ha, ⟨vo, vf, va, hd, h1, h2, h3⟩, ho⟩ := hx
    refine ⟨_, (pss_one (ps_ret (pe_dget (hu_of hr) (pe_fld (pv 0) rfl) pe_str (fun _ _ => rfl)))), ?_⟩
    exact ⟨_, rfl, a, CB, dx, _, _, rfl, ha, K.cl, K.nS, rfl, d, _, rfl, DGet.k (k := .inr "sliding") hd, k _ rfl⟩
theorem ok_p_after (F : Fun Z.K "after" "Book.after" s_Book_after f fd) (K : BkC Z CB) : Z.ok CX0 1 f fd ["self"] (spProp C CB (fun b v H => AfV C H v b.after)) := by
  refine F.ok sc_Book_after (fun vs H Q E h => ?_) (fun cdv A outer s H vs Q E hr h => ?_)
  · obtain ⟨x, b, rfl, _⟩ := h
    rfl
  · obtain ⟨x, b, rfl, hx, k⟩ := h
    obtain ⟨a, dx, d, rfl, ha, ⟨vo, vf, va, hd, h1, h2, h3⟩, ho⟩ := hx
    refine ⟨_, (pss_one (ps_ret (pe_dget (hu_of hr) (pe_fld (pv 0) rfl) pe_str (fun _ _ => rfl)))), ?_⟩
    exact ⟨_, rfl, a, CB, dx, _, _, rfl, ha, K.cl, K.nS, rfl, d, _, rfl, DGet.k (k := .inr "after") hd, k _ h3⟩
theorem ok_p_keep (F : Fun Z.K "keep" "Book.keep" s_Book_keep f fd) (K : BkC Z CB) : Z.ok CX0 1 f fd ["self"] (spProp C CB (fun b v H => v = .bl b.keep)) := by
  refine F.ok sc_Book_keep (fun vs H Q E h => ?_) (fun cdv A outer s H vs Q E hr h => ?_)
  · obtain ⟨x, b, rfl, _⟩ := h
    rfl
  · obtain ⟨x, b, rfl, hx, k⟩ := h
    obtain ⟨a, dx, d, rfl, ha, ⟨vo, vf, va, hd, h1, h2, h3⟩, ho⟩ := hx
    refine ⟨_, (pss_one (ps_ret (pe_dget (hu_of hr) (pe_fld (pv 0) rfl) pe_str (fun _ _ => rfl)))), ?_⟩
    exact ⟨_, rfl, a, CB, dx, _, _, rfl, ha, K.cl, K.nS, rfl, d, _, rfl, DGet.k (k := .inr "keep") hd, k _ rfl⟩
end
end Ps

/-! Books: made by calls, changed. -/
namespace Ps
open PySem PySem.Spec PyProof.Rows PySem.W L2

def bkPs : List Str := ["self", "tries", "told", "factor", "equal", "sliding", "after", "keep"]
def bkKs : List Str := ["factor", "equal", "sliding", "after", "keep"]
/-- a class made by positional values and keywords -/
def CalCK (Z : Cz) (CX : CXT) (k : Nat) (C : Addr) (x : Str) (ps : List Str) (n : Nat) (ks : List Str) (sp : Sp) : Prop := ∃ f fd g, Z.ok CX k f fd ps sp ∧ Mk Z.K C f ∧ Z.mg x = some (.ref C) ∧ KBn Z.K fd ps (n + 1) ks g (fun vs zs => vs ++ zs)
section
variable {Z : Cz} {X : Cx} {CX : CXT} {k n : Nat} {C : Addr} {ps ks : List Str} {sp : Sp} {E : XK} {x : Str} {p pos : Pos} {e : Expr} {es : List Expr} {kws : List Keyword} {t tk : TA}
theorem pe_calCK (c : CalCK Z CX k C x ps n ks sp) (hr : Room (k + 1) X.A) (hg : Gl X x) (hx : Passes CX X E) (ha : PA X (e :: es) t) (hkw : PK X kws tk) (z : InZ Z X := by exact ⟨rfl, rfl, rfl, rfl, rfl⟩)
    (hall : (backToKw pos (keywordEach kws X.env)).all (·.1.isSome) = true := by rfl) (hks : (backToKw pos (keywordEach kws X.env)).filterMap (·.1) = ks := by rfl) (hdb : (x == ("__debug__" : Str)) = false := by decide)
    (he : starEach (e :: es) X.env = (false, eval e X.env) :: starEach es X.env := by rfl) (hpl : ((backTo pos (starEach (e :: es) X.env)).any (·.1) || (backToKw pos (keywordEach kws X.env)).any (·.1.isNone)) = false := by rfl) :
    PE X (.Call (.Name x p) (e :: es) kws pos) (tMakeK C n ks.length sp (fun vs zs => vs ++ zs) E t tk) := by
  obtain ⟨f, fd, g, G, M, h2, hb⟩ := c
  have F := z.ok G
  rw [← z.K] at M hb
  exact pe_makeK M F hr hg (by rw [z.mg]; exact h2) hb hx ha hkw hall hks hdb he hpl
end
/-- a new book -/
theorem mk_book {C CB x dx : Addr} {H : Hp} {Q2 : VK} {E : XK} {vo vf va : V} {b : Bk} (hx : H x = none) (hdx : H dx = none) (hne : dx ≠ x) (ha : BkArg C H vo vf va b) (k : ∀ H', Same H H' → BkAt C CB H' (.ref x) b → Q2 .non H') :
    spBook C CB [.ref x, trV b.tries, vo, vf, .bl b.equal, .bl b.sliding, va, .bl b.keep] (upd (upd H dx (.own x)) x (.ins CB dx [])) Q2 E := by
  have e0 : Same H (upd (upd H dx (.own x)) x (.ins CB dx [])) := fun c o h => by rw [upd_ne (ne_of_none h hx), upd_ne (ne_of_none h hdx)]; exact h
  refine ⟨x, dx, vo, vf, va, b, rfl, upd_same, ha.mono e0, fun d H' hk h1 h2 => k H' (fun c o h => hk c (ne_of_none h hx) o (e0 c o h)) ⟨x, dx, d, rfl, h1, h2, ha.ok⟩⟩
abbrev CBook (Z : Cz) (C CB : Addr) : Prop := CalC Z CX0 10 CB "Book" bkPs [.int 1, .bl false, .bl false, .str "ever", .bl true] (spBook C CB)
abbrev CBookK (Z : Cz) (C CB : Addr) : Prop := CalCK Z CX0 10 CB "Book" bkPs 2 bkKs (spBook C CB)
def bkOf (t : Option Int) (q : Int × Int) : Bk := ⟨t, q, (1, 1), false, false, .ever, true⟩
theorem sz_one : Sz 100 (1, 1) := ⟨by decide, by decide, by decide⟩
theorem bkOf_arg {C : Addr} {H : Hp} {t : Option Int} {v : V} {q : Int × Int} (ht : ∀ i, t = some i → 0 ≤ i ∧ i ≤ 6) (hv : Nb C H v q) (hl : Lw q) (hz : Sz 100 q) (hp : 0 < q.1) : BkArg C H v (.int 1) (.str "ever") (bkOf t q) :=
  ⟨⟨ht, hl, hz, hp, Lw.int 1, sz_one, by show (0 : Int) ≤ 1; decide, trivial⟩, hv, .inr ⟨1, rfl, rfl⟩, rfl⟩
def spOwn (C CB : Addr) (t : Option Int) : Sp := fun vs H Q _ => vs = [] ∧ ∀ v H', Same H H' → BkAt C CB H' v (bkOf t (1, 1)) → Q v H'
def spFive (C CB : Addr) : Sp := fun vs H Q _ => ∃ v q, vs = [v] ∧ Nb C H v q ∧ Lw q ∧ Sz 100 q ∧ 0 < q.1 ∧ ∀ v' H', Same H H' → BkAt C CB H' v' (bkOf (some 5) q) → Q v' H'
/-- behind a lock -/
theorem lock_same {H H' : Hp} {d : Addr} {u : HO} {od : Obj} (hd : H d = some u) (e : Same (upd H d (.frz od u)) H') : Same H (upd H' d u) := fun c o hc => by
  by_cases hcd : c = d
  · subst hcd
    rw [upd_same, ← hd]
    exact hc
  · rw [upd_ne hcd]
    exact e _ _ (by rw [upd_ne hcd]; exact hc)
/-- the book b with the settings kvs put otherwise: c -/
def spChg (C CB : Addr) : Sp := fun vs H Q _ => ∃ (a dx ds d : Addr) (kvs : List (Key × V)) (b c : Bk) (vo vf va wo wf wa : V), vs = [.ref a, .ref d] ∧ H a = some (.ins CB dx [("settings", .ref ds)]) ∧ H ds = some (.dK (stL (trV b.tries) vo vf (.bl b.equal) (.bl b.sliding) va (.bl b.keep))) ∧
  H d = some (.dK kvs) ∧ kvs.length ≤ 10 ∧ (∀ kv ∈ kvs, ∃ x ∈ stF, kv.1 = Sum.inr x) ∧
  mergeK (stL (trV b.tries) vo vf (.bl b.equal) (.bl b.sliding) va (.bl b.keep)) kvs = stL (trV c.tries) wo wf (.bl c.equal) (.bl c.sliding) wa (.bl c.keep) ∧ BkArg C H wo wf wa c ∧ ∀ v H', Same H H' → BkAt C CB H' v c → Q v H'
theorem in_stF {x : Str} (h : x ∈ stF) : inV (.str x) (stF.map V.str) = true := by
  simp only [stF, List.mem_cons, List.not_mem_nil, or_false] at h
  rcases h with rfl | rfl | rfl | rfl | rfl | rfl | rfl <;> decide +kernel
section
variable {Z : Cz} {f C CB : Addr} {fd : FuncData}
end
end Ps

/-! Books behind the top. -/
namespace Ps
open PySem PySem.Spec PyProof.Rows PySem.W L2 He

theorem relsB_ok : ∀ {vs : List V} {us : List Value}, relsB vs us = true → Vals vs us
  | [], [], _ => .nil
  | [], _ :: _, h => by cases h
  | _ :: _, [], h => by cases h
  | v :: vs, u :: us, h => by
    obtain ⟨h1, h2⟩ := ba (show (relVB v u && relsB vs us) = true from h)
    exact .cons (relVB_ok h1) (relsB_ok h2)
theorem tupB_ok {K : Frag} {h : Heap} {mg : Str → Option Value} {x : Str} {xs : List V} (X : K.In h) (G : h.Ns mainGlobals mg) (c : tupB K x xs = true) : ∃ a, mg x = some (.ref a) ∧ ∀ H, SqT K H a xs := by
  unfold tupB at c
  split at c
  · rename_i a e
    split at c
    · rename_i dd its n sl lk
      obtain ⟨c1, c2⟩ := ba c
      exact ⟨a, mg_of X G e, fun H => .inr ⟨_, its, n, lk, rfl, rfl, of_decide_eq_true c1, relsB_ok c2⟩⟩
    · cases c
  · cases c
section
variable {K : Frag} {h : Heap} {mg : Str → Option Value}
theorem bkB_ok {P : Program} {w : World} {base : Heap} (X : K.In h) (G : h.Ns mainGlobals mg) (c : bkB K = true) : BkT ⟨P, w, K, mg, base⟩ ∧ BkC ⟨P, w, K, mg, base⟩ (ga K "Book") ∧ BkI ⟨P, w, K, mg, base⟩ (ga K "Book") ∧ Mk K (ga K "Book") (ma K (ga K "Book") "__init__") ∧ kwdB K (ma K (ga K "Book") "__init__") bkKws = true := by
  obtain ⟨c1, c⟩ := ba c
  obtain ⟨c2, c⟩ := ba c
  obtain ⟨c3, c⟩ := ba c
  obtain ⟨c4, c⟩ := ba c
  obtain ⟨c5, c⟩ := ba c
  obtain ⟨c6, c⟩ := ba c
  obtain ⟨c7, c⟩ := ba c
  obtain ⟨c8, c⟩ := ba c
  obtain ⟨c9, c⟩ := ba c
  obtain ⟨c10, c⟩ := ba c
  obtain ⟨c11, c⟩ := ba c
  obtain ⟨c12, c13⟩ := ba c
  obtain ⟨d1, d⟩ := ba c5
  obtain ⟨d2, d⟩ := ba d
  obtain ⟨d3, d4⟩ := ba d
  have f := fun {x : Str} (hx : x ∈ (["str", "tuple", "len", "all", "isinstance"] : List Str)) => freeB_ok X G c8 hx
  exact ⟨⟨f (by simp), f (by simp), f (by simp), f (by simp), txtB_ok X G c9, intB_ok X G c10, intB_ok X G c11, tupB_ok X G c12⟩, ⟨cls_ok c1, noat_ok c3, glo_ok X G c4⟩, ⟨eqO_ok d1, eqO_ok d2, of_decide_eq_true d3, of_decide_eq_true d4, of_decide_eq_true c6, of_decide_eq_true c7, f (by simp)⟩, mkr_ok c2, c13⟩
end
section
variable {Z : Cz} {C CB f : Addr} {fd : FuncData}
theorem book_cals (F : FunD Z.K "__init__" "Book.__init__" (defArgs s_Book_dd_init) (defBody s_Book_dd_init) (defScope s_Book_dd_init) [] bkKws f fd) (M : Mk Z.K CB f) (K : BkC Z CB) (G : Z.ok CX0 10 f fd bkPs (spBook C CB)) : CBook Z C CB ∧ CBookK Z C CB := by
  obtain ⟨d1, v1, b1⟩ := FunD.binds0 (ps := bkPs) F 3 (by simp [bkKws]) rfl (fun D doc pm an cdv ct us ks hl hk => match us, hl, ks, hk with
    | [_, _, _], _, [_, _, _, _, _], _ => ⟨_, _, _, _, _, _, rfl, rfl, _, _, _, _, _, _, rfl, rfl, _, _, _, _, _, _, rfl, rfl, _, _, _, _, _, _, rfl, rfl, _, _, _, _, _, _, rfl, rfl, rfl⟩)
  obtain ⟨mv, kb⟩ := FunD.kbinds0 (ps := bkPs) F 3 bkKs [] (fun us mv ws => us ++ ws) (by simp [bkKws]) (fun q hq => by cases hq) (fun r1 _ r3 => r1.append r3) (fun D doc pm an cdv ct us mv ws hl hm hk => match us, hl, mv, hm, ws, hk with
    | [_, _, _], _, [], _, [_, _, _, _, _], _ => rfl)
  exact ⟨⟨f, fd, d1, G, M, K.mg, b1, v1⟩, ⟨f, fd, _, G, M, K.mg, kb⟩⟩
end
end Ps

/-! Books: the two known plans. -/
namespace Ps
open PySem PySem.Spec PyProof.Rows PySem.W L2
section
variable {Z : Cz} {f C CB : Addr} {fd : FuncData}
theorem ok_own_plans (F : Fun Z.K "own_plans" "Book.own_plans" s_Book_own_plans f fd) (c : CBook Z C CB) : Z.ok CX0 12 f fd [] (spOwn C CB none) := by
  refine F.ok sc_Book_own_plans (fun vs H Q E h => ?_) (fun cdv A outer s H vs Q E hr h => ?_)
  · obtain ⟨rfl, _⟩ := h
    rfl
  · obtain ⟨rfl, k⟩ := h
    refine ⟨_, (pss_one (ps_ret (pe_calC c hr (by rfl) pass0 (pa_cons pe_non (pa_cons pe_int pa_nil))))), ?_⟩
    intro x dx hx hdx hne
    exact mk_book (b := bkOf none (1, 1)) hx hdx hne (bkOf_arg (by intro i z; cases z) (.inr ⟨1, rfl, rfl⟩) (Lw.int 1) sz_one (by decide)) fun H' e h => ⟨rfl, k _ H' e h⟩
end
end Ps

/-! A book where tables grow. -/
namespace Ps
open PySem PySem.Spec PyProof.Rows PySem.W L2 LamX

theorem BkAt.gr {T : List (Addr × Str)} {C CB : Addr} {H H' : Hp} {v : V} {b : Bk} (g : Gr T none H H') (h : BkAt C CB H v b) : BkAt C CB H' v b := by
  obtain ⟨a, dx, d, rfl, ha, ⟨vo, vf, va, hd, h1, h2, h3⟩, ho⟩ := h
  have sh : ∀ {v : V} {q : Int × Int}, Sh C H v q → Sh C H' v q := fun h => let ⟨a, dx, h, k⟩ := h; ⟨a, dx, h, g.at k⟩
  refine ⟨a, dx, d, rfl, g.at ha, ⟨vo, vf, va, g.at hd, sh h1, sh h2, ?_⟩, ho⟩
  cases hb : b.after with
  | ever => rw [hb] at h3; exact h3
  | doubt q => rw [hb] at h3; obtain ⟨a, w, e1, e2, e3⟩ := h3; exact ⟨a, w, e1, g.at e2, sh e3⟩
  | look i => rw [hb] at h3; obtain ⟨a, e1, e2⟩ := h3; exact ⟨a, e1, g.at e2⟩
end Ps

/-! States of books: the plain rules; the small methods. -/
namespace Ps
open PySem PySem.Spec PyProof.Rows PySem.W L2 LamX

/-- a state -/
inductive BSt where
  | own (k : Bool) (mem : List Str)
  | gen (k : Bool) (c : Option Int)
  deriving DecidableEq
def BSt.mode : BSt → Str
  | .own _ _ => "own"
  | .gen _ _ => "general"
def BSt.kept : BSt → Bool
  | .own k _ => k
  | .gen k _ => k
def BSt.mem : BSt → List V
  | .own _ m => m.map V.str
  | .gen _ none => []
  | .gen _ (some n) => [.int n]
def StV (H : Hp) (v : V) (s : BSt) : Prop := ∃ t m, v = .ref t ∧ H t = some (.tup [.str s.mode, .bl s.kept, .ref m]) ∧ H m = some (.tup s.mem)
theorem StV.mono {H H' : Hp} {v : V} {s : BSt} (e : Same H H') (h : StV H v s) : StV H' v s := let ⟨t, m, h1, h2, h3⟩ := h; ⟨t, m, h1, e _ _ h2, e _ _ h3⟩
theorem StV.gr {T : List (Addr × Str)} {H H' : Hp} {v : V} {s : BSt} (g : Gr T none H H') (h : StV H v s) : StV H' v s := let ⟨t, m, h1, h2, h3⟩ := h; ⟨t, m, h1, g.at h2, g.at h3⟩
/-! the rules -/
def Bk.looks (b : Bk) : Option Int := match b.after with
  | .look i => some i
  | _ => none
def Bk.genSt (b : Bk) (k : Bool) : BSt := .gen k (match b.looks with | none => none | some _ => some 0)
def Bk.begun (b : Bk) (k : Bool) : BSt := if b.tries = some 0 then b.genSt k else .own k []
def Bk.ended (b : Bk) (k : Bool) : BSt := b.begun (k && b.keep)
def Bk.isOwn (b : Bk) : BSt → Bool
  | .own _ _ => true
  | .gen _ c => match b.looks with
    | none => false
    | some r => decide (c = some (r - 1))
def plV (own : Bool) : V := .str (if own then "own" else "general")
def gBy' (q : Int × Int) (n : Int) : Int × Int := gBy q (n, 1)
def lkP (P : PrS) (w : Str) : Q2 := ((P.ks.find? fun x => decide (x.1 = w)).map (·.2)).getD ((0, 1), (0, 1))
/-- the value of tries -/
def Bk.val (b : Bk) (P : PrS) (n : Int) (mem : List Str) : Int × Int := gAdd (gBy' ((mem.map fun w => (lkP P w).1).foldl gAdd (0, 1)) n) (gMul b.factor P.md)
def Bk.switched (b : Bk) (P : PrS) (n : Int) (mem : List Str) : Bool := decide (gMin b.told (b.val P n mem) < 0) || (b.equal && decide (gMin b.told (b.val P n mem) = 0))
def Bk.memo (b : Bk) (n : Int) (mem : List Str) (w : Str) : List Str := if b.sliding then (mem ++ [w]).drop ((mem ++ [w]).length - n.toNat) else srtW (mem ++ [w])
def Bk.behindTry (b : Bk) (P : PrS) (k : Bool) (mem : List Str) (w : Str) : BSt := match b.tries with
  | none => .own k mem
  | some n => if decide (((b.memo n mem w).length : Int) = n) && b.switched P n (b.memo n mem w) then b.genSt k else if decide (((b.memo n mem w).length : Int) = n) && !b.sliding then .own k [] else .own k (b.memo n mem w)
def Bk.behindLook (b : Bk) (P : PrS) (k : Bool) (w : Str) : BSt := if gMin (gAdd (lkP P w).1 (gMul b.factor P.md)) b.told < 0 then b.ended k else b.genSt k
def Bk.doubted (b : Bk) (P : PrS) (w : Str) : Bool := match b.after with
  | .doubt q => decide (0 < gMin (lkP P w).2 (gMul q b.told))
  | _ => false
def Bk.behindGen (b : Bk) (P : PrS) (c : Option Int) (w : Str) : BSt := if b.doubted P w then b.ended true else .gen true (match b.looks with | none => none | some _ => c.map (· + 1))
def Bk.cost (b : Bk) (P : PrS) (s : BSt) (w : Str) : Int × Int := if b.isOwn s then gAdd P.md (lkP P w).1 else if s.kept then (lkP P w).2 else gAdd (lkP P w).2 P.gn
def Bk.next (b : Bk) (P : PrS) (s : BSt) (w : Str) : BSt := match s with
  | .own k mem => b.behindTry P k mem w
  | .gen k c => if b.isOwn (.gen k c) then b.behindLook P k w else b.behindGen P c w
/-- a state that is one of the book's -/
def Bk.wf (b : Bk) (P : PrS) : BSt → Prop
  | .own _ mem => b.tries ≠ some 0 ∧ (∀ w ∈ mem, w ∈ P.ks.map (·.1)) ∧ match b.tries with
    | none => mem = []
    | some n => if b.sliding then (mem.length : Int) ≤ n else (mem.length : Int) < n ∧ srtW mem = mem
  | .gen _ c => b.tries ≠ none ∧ match b.looks with
    | none => c = none
    | some r => ∃ n, c = some n ∧ 0 ≤ n ∧ n < r
theorem lkP_of {P : PrS} (g : KnG P.ks) {w : Str} {q : Q2} (h : (w, q) ∈ P.ks) : lkP P w = q := by
  have nd := g.nd
  unfold lkP
  generalize P.ks = ks at h nd
  induction ks with
  | nil => cases h
  | cons x r ih =>
    rw [List.map_cons, List.nodup_cons] at nd
    rw [List.find?_cons]
    rcases List.mem_cons.mp h with rfl | h
    · simp
    · have hne : ¬ x.1 = w := fun z => nd.1 (List.mem_map.mpr ⟨(w, q), h, z.symm⟩)
      rw [decide_eq_false hne]
      exact ih h nd.2
theorem kind_in {P : PrS} (g : KnG P.ks) {w : Str} (h : w ∈ P.ks.map (·.1)) : (w, lkP P w) ∈ P.ks := by
  obtain ⟨x, hx, rfl⟩ := List.mem_map.mp h
  rw [lkP_of g (w := x.1) (q := x.2) hx]
  exact hx
/-- a book's own methods -/
structure BkPr (Z : Cz) (C CB : Addr) : Prop where
  tries : CalP Z CX0 1 CB "tries" (spProp C CB fun b v H => v = trV b.tries)
  told : CalP Z CX0 1 CB "told" (spProp C CB fun b v H => Sh C H v b.told)
  factor : CalP Z CX0 1 CB "factor" (spProp C CB fun b v H => Sh C H v b.factor)
  equal : CalP Z CX0 1 CB "equal" (spProp C CB fun b v H => v = .bl b.equal)
  sliding : CalP Z CX0 1 CB "sliding" (spProp C CB fun b v H => v = .bl b.sliding)
  after : CalP Z CX0 1 CB "after" (spProp C CB fun b v H => AfV C H v b.after)
  keep : CalP Z CX0 1 CB "keep" (spProp C CB fun b v H => v = .bl b.keep)
def spLooks (C CB : Addr) : Sp := fun vs H Q _ => ∃ x b, vs = [x] ∧ BkAt C CB H x b ∧ Q (trV b.looks) H
def spGenSt (C CB : Addr) (g : Bk → Bool → BSt) : Sp := fun vs H Q _ => ∃ x b k, vs = [x, .bl k] ∧ BkAt C CB H x b ∧ ∀ v H', Same H H' → StV H' v (g b k) → Q v H'
def spStart (C CB : Addr) : Sp := fun vs H Q _ => ∃ x b, vs = [x] ∧ BkAt C CB H x b ∧ ∀ v H', Same H H' → StV H' v (b.begun false) → Q v H'
def spPlanOf (C CB : Addr) : Sp := fun vs H Q _ => ∃ x b sv s P, vs = [x, sv] ∧ BkAt C CB H x b ∧ StV H sv s ∧ b.wf P s ∧ Q (plV (b.isOwn s)) H
/-- a property of a book -/
theorem bk_prop {C CB : Addr} {g : Bk → V → Hp → Prop} {H : Hp} {x : V} {b : Bk} {Q : VK} (hb : BkAt C CB H x b) (k : ∀ v, g b v H → Q v H) : ∃ a dx fs, x = V.ref a ∧ H a = some (.ins CB dx fs) ∧ spProp C CB g (.ref a :: []) H Q E0 := by
  have hb' := hb
  obtain ⟨a, dx, d, rfl, ha, _⟩ := hb
  exact ⟨a, dx, _, rfl, ha, _, b, rfl, hb', k⟩
/-- a method of a book -/
theorem bk_meth {C CB : Addr} {H : Hp} {x : V} {b : Bk} {m : Str} {R : Prop} (hb : BkAt C CB H x b) (hm : (m == ("settings" : Str)) = false) (k : R) : ∃ a dx fs, x = V.ref a ∧ H a = some (.ins CB dx fs) ∧ fs.lookup m = none ∧ R := by
  obtain ⟨a, dx, d, rfl, ha, _⟩ := hb
  refine ⟨a, dx, _, rfl, ha, ?_, k⟩
  rw [List.lookup_cons, hm]
  rfl
section
variable {Z : Cz} {f C CB : Addr} {fd : FuncData}
theorem ok_looks (F : Fun Z.K "looks" "Book.looks" s_Book_looks f fd) (B : BkPr Z C CB) : Z.ok CX0 3 f fd ["self"] (spLooks C CB) := by
  refine F.ok sc_Book_looks (fun vs H Q E h => ?_) (fun cdv A outer s H vs Q E hr h => ?_)
  · obtain ⟨x, b, rfl, _⟩ := h
    rfl
  · obtain ⟨x, b, rfl, hx, k⟩ := h
    refine ⟨_, (pss_one (ps_ret (pe_ifExp (pt_cmpR op_eq (pe_ix ix_seq (pe_calP B.after hr pass0 (pv 0) (by rfl)) pe_int (fun _ _ => rfl)) pe_str (nomark _)) (pe_ix ix_tup (pe_calP B.after hr pass0 (pv 0) (by rfl)) pe_int (fun _ _ => rfl)) pe_non))), ?_⟩
    refine ⟨_, rfl, bk_prop hx fun va hva => ?_⟩
    unfold Bk.looks at k
    cases ha : b.after with
    | ever =>
      rw [ha] at hva k
      have hva : va = .str "ever" := hva
      subst hva
      exact .inr (.inr ⟨_, _, _, rfl, rfl, (by decide +kernel), rfl, rfl, _, rfl, iteF k⟩)
    | doubt q =>
      rw [ha] at hva k
      obtain ⟨t, w, rfl, ht, hw⟩ := hva
      exact .inr (.inl ⟨t, _, _, _, rfl, rfl, SqT.of ht, rfl, rfl, _, rfl, iteF k⟩)
    | look i =>
      rw [ha] at hva k
      obtain ⟨t, rfl, ht⟩ := hva
      refine .inr (.inl ⟨t, _, _, _, rfl, rfl, SqT.of ht, rfl, rfl, _, rfl, iteT ?_⟩)
      refine ⟨_, rfl, bk_prop hx fun vb hvb => ?_⟩
      rw [ha] at hvb
      obtain ⟨t', rfl, ht'⟩ := hvb
      exact ⟨t', _, _, _, rfl, rfl, SqT.of ht', rfl, k⟩
end
end Ps

/-! States of books: modes begun and ended; the plan of a state. -/
namespace Ps
open PySem PySem.Spec PyProof.Rows PySem.W L2 LamX

theorem new_tup {H : Hp} {Q : VK} {xs : List V} (hl : xs.length ≤ sizeLine) (k : ∀ p H', Same H H' → H p = none → H' p = some (.tup xs) → Q (.ref p) H') : xs.length ≤ sizeLine ∧ ∀ p, H p = none → Q (.ref p) (upd H p (.tup xs)) :=
  ⟨hl, fun p hp => k p _ (Same.upd hp) hp upd_same⟩
section
variable {Z : Cz} {f C CB : Addr} {fd : FuncData}
abbrev CLooks (Z : Cz) (C CB : Addr) : Prop := CalM Z CX0 3 CB "looks" ["self"] [] (spLooks C CB)
abbrev CGenSt (Z : Cz) (C CB : Addr) : Prop := CalM Z CX0 4 CB "general_state" ["self", "kept"] [] (spGenSt C CB Bk.genSt)
abbrev CBegun (Z : Cz) (C CB : Addr) : Prop := CalM Z CX0 5 CB "begun" ["self", "kept"] [] (spGenSt C CB Bk.begun)
theorem ok_genSt (F : Fun Z.K "general_state" "Book.general_state" s_Book_general_state f fd) (c_looks : CLooks Z C CB) : Z.ok CX0 4 f fd ["self", "kept"] (spGenSt C CB Bk.genSt) := by
  refine F.ok sc_Book_general_state (fun vs H Q E h => ?_) (fun cdv A outer s H vs Q E hr h => ?_)
  · obtain ⟨x, b, k, rfl, _⟩ := h
    rfl
  · obtain ⟨x, b, kp, rfl, hx, k⟩ := h
    refine ⟨_, (pss_one (ps_ret (pe_tup (pa_cons pe_str (pa_cons (pv 1) (pa_cons (pe_ifExp (pt_cmpR op_isN (pe_calM0 c_looks (hr.mono (by decide)) pass0 (pv 0)) pe_non (nomark _)) (pe_tup pa_nil) (pe_tup (pa_cons pe_int pa_nil))) pa_nil)))))), ?_⟩
    refine ⟨_, rfl, _, rfl, bk_meth hx (by decide) ⟨x, b, rfl, hx, rfl, _, rfl, ?_⟩⟩
    unfold Bk.genSt at k
    cases hl : b.looks with
    | none =>
      rw [hl] at k
      refine iteT ⟨Nat.zero_le _, fun p hp => ⟨(by show 3 ≤ sizeLine; decide), fun t ht => ?_⟩⟩
      have e1 := Same.upd (o := .tup []) hp
      exact k _ _ (e1.trans (Same.upd ht)) ⟨t, p, rfl, upd_same, (Same.upd ht) _ _ upd_same⟩
    | some r =>
      rw [hl] at k
      refine iteF ⟨(by show 1 ≤ sizeLine; decide), fun p hp => ⟨(by show 3 ≤ sizeLine; decide), fun t ht => ?_⟩⟩
      have e1 := Same.upd (o := .tup [.int 0]) hp
      exact k _ _ (e1.trans (Same.upd ht)) ⟨t, p, rfl, upd_same, (Same.upd ht) _ _ upd_same⟩
theorem trV_zero (t : Option Int) : decide (trV t = V.int 0) = decide (t = some 0) := by
  cases t with
  | none => rfl
  | some i => exact decide_eq_decide.mpr ⟨fun z => by rw [V.int.inj z], fun z => by rw [Option.some.inj z]; rfl⟩
theorem ok_begun (F : Fun Z.K "begun" "Book.begun" s_Book_begun f fd) (B : BkPr Z C CB) (c_general_state : CGenSt Z C CB) : Z.ok CX0 5 f fd ["self", "kept"] (spGenSt C CB Bk.begun) := by
  refine F.ok sc_Book_begun (fun vs H Q E h => ?_) (fun cdv A outer s H vs Q E hr h => ?_)
  · obtain ⟨x, b, k, rfl, _⟩ := h
    rfl
  · obtain ⟨x, b, kp, rfl, hx, k⟩ := h
    refine ⟨_, (pss_one (ps_ret (pe_ifExp (pt_cmpR op_eq (pe_calP B.tries (hr.mono (by decide)) pass0 (pv 0) (by rfl)) pe_int (nomark _)) (pe_calM c_general_state (hr.mono (by decide)) pass0 (pv 0) (pa_cons (pv 1) pa_nil)) (pe_tup (pa_cons pe_str (pa_cons (pv 1) (pa_cons (pe_tup pa_nil) pa_nil))))))), ?_⟩
    refine ⟨_, rfl, bk_prop hx fun va hva => ?_⟩
    subst hva
    unfold Bk.begun at k
    refine ⟨?_, _, rfl, ?_⟩
    · cases b.tries <;> rfl
    rw [trV_zero]
    by_cases ht : b.tries = some 0
    · rw [if_pos ht] at k
      rw [decide_eq_true ht]
      exact iteT ⟨_, rfl, bk_meth hx (by decide) ⟨_, rfl, x, b, kp, rfl, hx, k⟩⟩
    · rw [if_neg ht] at k
      rw [decide_eq_false ht]
      refine iteF ⟨_, rfl, Nat.zero_le _, fun p hp => ⟨(by show 3 ≤ sizeLine; decide), fun t ht => ?_⟩⟩
      have e1 := Same.upd (o := .tup []) hp
      exact k _ _ (e1.trans (Same.upd ht)) ⟨t, p, rfl, upd_same, (Same.upd ht) _ _ upd_same⟩
theorem ok_start (F : Fun Z.K "start" "Book.start" s_Book_start f fd) (c_begun : CBegun Z C CB) : Z.ok CX0 6 f fd ["self"] (spStart C CB) := by
  refine F.ok sc_Book_start (fun vs H Q E h => ?_) (fun cdv A outer s H vs Q E hr h => ?_)
  · obtain ⟨x, b, rfl, _⟩ := h
    rfl
  · obtain ⟨x, b, rfl, hx, k⟩ := h
    refine ⟨_, (pss_one (ps_ret (pe_calM c_begun (hr.mono (by decide)) pass0 (pv 0) (pa_cons pe_bl pa_nil)))), ?_⟩
    exact ⟨_, rfl, bk_meth hx (by decide) ⟨x, b, false, rfl, hx, k⟩⟩
theorem ok_ended (F : Fun Z.K "ended" "Book.ended" s_Book_ended f fd) (B : BkPr Z C CB) (c_begun : CBegun Z C CB) : Z.ok CX0 6 f fd ["self", "kept"] (spGenSt C CB Bk.ended) := by
  refine F.ok sc_Book_ended (fun vs H Q E h => ?_) (fun cdv A outer s H vs Q E hr h => ?_)
  · obtain ⟨x, b, k, rfl, _⟩ := h
    rfl
  · obtain ⟨x, b, kp, rfl, hx, k⟩ := h
    refine ⟨_, (pss_one (ps_ret (pe_calM c_begun (hr.mono (by decide)) pass0 (pv 0) (pa_cons (pe_and (pv 1) (pe_one (pe_calP B.keep (hr.mono (by decide)) pass0 (pv 0) (by rfl)))) pa_nil)))), ?_⟩
    refine ⟨_, rfl, bk_meth hx (by decide) ⟨_, rfl, _, rfl, ?_⟩⟩
    unfold Bk.ended at k
    cases kp with
    | true => exact iteT ⟨_, rfl, bk_prop hx fun va hva => by subst hva; exact ⟨x, b, b.keep, rfl, hx, k⟩⟩
    | false => exact iteF ⟨x, b, false, rfl, hx, k⟩
theorem ok_plan_of (F : Fun Z.K "plan_of" "Book.plan_of" s_Book_plan_of f fd) (c_looks : CLooks Z C CB) : Z.ok CX0 4 f fd ["self", "state"] (spPlanOf C CB) := by
  refine F.ok sc_Book_plan_of (fun vs H Q E h => ?_) (fun cdv A outer s H vs Q E hr h => ?_)
  · obtain ⟨x, b, sv, s, P, rfl, _⟩ := h
    rfl
  · obtain ⟨x, b, sv, s, P, rfl, hx, hs, hw, k⟩ := h
    refine ⟨_, (pss_cons (ps_if (PW.pt (pw_or (pt_cmpR op_eq (pe_ix ix_tup (pv 1) pe_int (fun _ _ => rfl)) pe_str (nomark _)) (pw_or1 (PW.pt (pw_and (pt_cmpR op_notN (pe_calM0 c_looks (hr.mono (by decide)) pass0 (pv 0)) pe_non (nomark _)) (pw_and1 (pt_cmpR op_eq (pe_ix ix_tup (pe_ix ix_tup (pv 1) pe_int (fun _ _ => rfl)) pe_int (fun _ _ => rfl)) (pe_op op_sub (pe_calM0 c_looks (hr.mono (by decide)) pass0 (pv 0)) pe_int) (nomark _))))))))
      (pss_one (ps_ret pe_str))
      pss_nil)
      (pss_one (ps_ret pe_str))), ?_⟩
    obtain ⟨t, m, rfl, ht, hm⟩ := hs
    refine ⟨_, rfl, t, _, _, _, rfl, rfl, SqT.of ht, rfl, rfl, _, rfl, ?_⟩
    cases s with
    | own kp mem => exact iteT k
    | gen kp c =>
      refine iteF ⟨_, rfl, bk_meth hx (by decide) ⟨x, b, rfl, hx, rfl, _, rfl, ?_⟩⟩
      obtain ⟨_, hw⟩ := hw
      unfold Bk.isOwn at k
      cases hl : b.looks with
      | none =>
        rw [hl] at k
        exact iteF k
      | some r =>
        rw [hl] at k hw
        obtain ⟨n, rfl, hn0, hnr⟩ := hw
        replace k : Q (plV (decide (some n = some (r - 1)))) H := k
        refine iteT ⟨_, rfl, t, _, _, _, rfl, rfl, SqT.of ht, rfl, m, _, _, _, rfl, rfl, SqT.of hm, rfl, _, rfl, bk_meth hx (by decide) ⟨x, b, rfl, hx, ?_⟩⟩
        rw [hl]
        refine ⟨_, _, rfl, rfl, rfl, _, rfl, ?_⟩
        have e : decide (V.int n = V.int (r - 1)) = decide (some n = some (r - 1)) := decide_eq_decide.mpr ⟨fun z => by rw [V.int.inj z], fun z => by rw [Option.some.inj z]⟩
        rw [e]
        by_cases hn : some n = some (r - 1)
        · rw [decide_eq_true hn] at k ⊢
          exact iteT k
        · rw [decide_eq_false hn] at k ⊢
          exact iteF k
end
end Ps

/-! C.m(*e), m a static method. -/
namespace Ps
open PySem PySem.Spec PyProof.Rows PySem.W L2

def tSMethV (K : Frag) (C : Addr) (sp : Sp) (E : XK) (ta te : TE) : TE := fun σ H Q => ta σ H fun x H1 => x = .ref C ∧ te σ H1 fun y H2 => ∃ a xs, y = V.ref a ∧ (SqT K H2 a xs ∨ SqL K H2 a xs) ∧ sp xs H2 Q E
theorem pe_calTV {Z : Cz} {X : Cx} {CX : CXT} {k : Nat} {C : Addr} {sp : Sp} {E : XK} {o e : Expr} {m : Str} {p pos apos : Pos} {ta te : TE} (c : CalT Z CX k C m sp) (hr : Room k X.A) (hx : Passes CX X E) (he : PE X o ta) (ha : PE X e te) (z : InZ Z X := by exact ⟨rfl, rfl, rfl, rfl, rfl⟩)
    (hbase : attributeBase o m X.env (eval o X.env) = eval o X.env := by rfl) : PE X (.Call (.Attribute o m apos) [.Starred e p] [] pos) (tSMethV Z.K C sp E ta te) := by
  obtain ⟨pa, g, F, r⟩ := c
  obtain ⟨e1, e2, e3, e4, e5⟩ := z
  have F' : FnR X.prog X.w X.K X.mg X.base CX k g sp := by rw [e1, e2, e3, e4, e5]; exact F
  rw [← e3] at r ⊢
  obtain ⟨rest, hp⟩ := r.rc
  refine ⟨fun pins s σ H Q I h => ?_⟩
  refine starcall_of hbase (thn (he.run pins s σ H _ I h) fun u s1 ⟨x, H1, I1, rx, ex, q⟩ => ?_)
  subst ex
  obtain rfl : u = Value.ref C := rx
  refine cls_bind I1.kIn r.rd r.at_ ?_
  refine wpAny_call (sm_get (s := { s1 with toks := s1.toks + 1 }) I1.kIn hp (handed_on rfl ?_))
  have I2 := I1.tok (s1.toks + 1)
  refine callWith_S (p := p) (h₀ := X.base) (first := []) I2.ok.mod.kin r.kp (thn (ha.run pins _ σ H1 _ I2 q) fun v s3 ⟨y, H2, I3, ry, a, xs, ey, hxs, q2⟩ => ?_)
  subst ey
  obtain rfl : v = Value.ref a := ry
  exact StX.star_any I3 hxs fun us s4 I4 rv => ⟨I4.kIn, wpAny_call (run_fnR F' hr hx I4 rv q2)⟩
end Ps

/-! Share.added, where nothing is raised. -/
namespace Ps
open PySem PySem.Spec PyProof.Rows PySem.W L2

theorem Bt.by {T nm : String} (h1 : (fastLookup T (PySem.dunder nm)).isSome = true) (h2 : (fastLookup T (dunderR nm)).isSome = true) (h3 : (fastBuiltinMro T).map (fun l => l.all fun v => match v with | .type _ => true | _ => false) = some true) : Bt T nm :=
  ⟨Option.isSome_iff_exists.mp h1, Option.isSome_iff_exists.mp h2, h3⟩
theorem bt_int_add : Bt "int" "add" := .by (by decide +kernel) (by decide +kernel) (by decide +kernel)
theorem bt_int_sub : Bt "int" "sub" := .by (by decide +kernel) (by decide +kernel) (by decide +kernel)
theorem bt_int_mul : Bt "int" "mul" := .by (by decide +kernel) (by decide +kernel) (by decide +kernel)
theorem Nb.sd {Z : Cz} {C : Addr} {nm : String} (T : ShT Z C) {H : Hp} {y : V} {q : Int × Int} (h : Nb C H y q) (hb : Bt "int" nm) : Sd Z.K C nm H y := by
  rcases h with ⟨a, dx, rfl, ha⟩ | ⟨i, rfl, _⟩
  · exact ⟨_, T.ty ha, .inl rfl⟩
  · exact ⟨_, .base (.int _), .inr ⟨_, rfl, hb⟩⟩
def spAdded (C : Addr) : Sp := fun vs H Q _ => ∃ qs : List (Int × Int), Al (fun v q => Nb C H v q) vs qs ∧ (∀ q ∈ qs, Sz 300 q) ∧ qs.length ≤ 10 ∧ ∀ v H', Same H H' → Sh C H' v (qs.foldl gAdd (0, 1)) → Q v H'
def spAddedB (C : Addr) : Sp := fun vs H Q _ => ∃ (p : Addr) (us : List V) (qs : List (Int × Int)), vs = [.ref p] ∧ H p = some (.tup us) ∧ Al (fun v q => Nb C H v q) us qs ∧ (∀ q ∈ qs, Sz 300 q) ∧ qs.length ≤ 10 ∧ ∀ v H', Same H H' → Sh C H' v (qs.foldl gAdd (0, 1)) → Q v H'
theorem fold_more {qs : List (Int × Int)} {i : Nat} {q s : Int × Int} (h : qs[i]? = some q) : (qs.take (i + 1)).foldl gAdd s = gAdd ((qs.take i).foldl gAdd s) q := by
  rw [take_more' h, List.foldl_append]
  rfl
theorem fold_sz {qs : List (Int × Int)} (hz : ∀ q ∈ qs, Sz 300 q) : ∀ i, i ≤ qs.length → Sz (1 + 301 * i) ((qs.take i).foldl gAdd (0, 1))
  | 0, _ => by
    rw [List.take_zero]
    exact ⟨by decide, by decide, by decide⟩
  | i + 1, hi => by
    have hg : qs[i]? = some qs[i] := List.getElem?_eq_getElem (by omega)
    rw [fold_more hg]
    exact ((fold_sz hz i (by omega)).add' (hz _ (List.mem_of_getElem? hg))).up (by omega)
section
variable {Z : Cz} {f C : Addr} {fd : FuncData}
theorem ok_added (F : Fun Z.K "added" "Share.added" s_Share_added f fd) (T : ShT Z C) (c1 : CShare1 Z C) (c2 : CAdd Z C) (N : Rfl Z.K C "add") : FnR Z.P Z.w Z.K Z.mg Z.base CX0 6 f (spAdded C) := by
  have G := Fun.star0 (Z := Z) (CX := CX0) (k := 5) (sp := spAddedB C) (pv := "numbers") (N := ["numbers", "found", "number"]) F sc_Share_added StX.cxUp_none (fun _ _ _ _ _ _ => rfl) (fun _ _ _ _ _ _ _ _ => rfl) (fun cdv A outer s H vs Q E hr h => ?_)
  · refine G.imp fun vs H Q E ⟨qs, ha, hz, hl, k⟩ => ⟨?_, fun p hp => ⟨p, vs, qs, rfl, upd_same, ha.imp fun v q h => h.mono (Same.upd hp), hz, hl, fun v H' e h => k v H' ((Same.upd hp).trans e) h⟩⟩
    rw [ha.1]
    exact Nat.le_of_lt (small1000' (by omega))
  · obtain ⟨p, us, qs, rfl, hp, ha, hz, hl, k⟩ := h
    refine ⟨_, PSs.nox (pss_cons (ps_set (i := 1) sc_Share_added.nd rfl (Or.inl rfl) (pe_calC c1 (hr.mono (by decide)) (by rfl) pass0 (pa_cons pe_int pa_nil)))
      (pss_cons (ps_for PassesOwn.never rfl (pi_tup (pv 0)) (pg_name (i := 2) sc_Share_added.nd rfl (Or.inl rfl))
      (pss_one (ps_set (i := 1) sc_Share_added.nd rfl (Or.inl rfl) (pe_op (op_bin (op := .Add) c2 N hr pass0) (pv 1) (pv 2)))))
      (pss_one (ps_ret (pv 1))))), ?_⟩
    intro x dx hx hdx hne
    refine mk_shI (by decide) (by decide +kernel) hx hdx hne fun H1 e1 z => ⟨rfl, ?_⟩
    refine ⟨_, rfl, p, rfl, ⟨_, SqT.of (e1 _ _ hp)⟩, for_tup (K := Z.K) (a := p) (xs := us) (fun i σ H' => ∃ v o, σ = [some (.ref p), some v, o] ∧ Same H H' ∧ Sh C H' v ((qs.take i).foldl gAdd (0, 1))) ⟨_, _, rfl, e1, z⟩ ?_ ?_ ?_⟩
    · rintro i σ H' hi ⟨v, o, rfl, e, _⟩
      exact SqT.of (e _ _ hp)
    · rintro i y σ H2 hy ⟨v, o, rfl, e, hv⟩
      obtain ⟨q, hq, hn⟩ := ha.get hy
      have hn := hn.mono e
      have hi : i < qs.length := (List.getElem?_eq_some_iff.mp hq).1
      refine ⟨_, rfl, _, rfl, hv.ins, hn.sd T bt_int_add, _, _, _, _, rfl, hv, hn, (fold_sz hz i (by omega)).up (by omega), (hz _ (List.mem_of_getElem? hq)).up (by decide), fun v2 H3 e3 h3 => ?_⟩
      exact ⟨_, _, rfl, e.trans e3, by rw [fold_more hq]; exact h3⟩
    · rintro σ H2 ⟨v, o, rfl, e, hv⟩
      rw [ha.1, List.take_length] at hv
      exact ⟨_, rfl, k v H2 e hv⟩
end
end Ps

/-! States of books: whether a book switches; behind a try. -/
namespace Ps
open PySem PySem.Spec PyProof.Rows PySem.W L2 LamX

/-- prices' own methods, for kinds that are there -/
def spPrGet0 (C CP : Addr) : Sp := fun vs H Q _ => ∃ x z q P, vs = [x, .str z] ∧ PrAtS C CP H x P ∧ KnG P.ks ∧ (z, q) ∈ P.ks ∧ ∀ v H', Same H H' → ShPr C H' v q → Q v H'
def spPrOf0 (C CP : Addr) (g : PrS → Q2 → Int × Int) : Sp := fun vs H Q _ => ∃ x z q P, vs = [x, .str z] ∧ PrAtS C CP H x P ∧ PrG' P ∧ (z, q) ∈ P.ks ∧ ∀ v H', Same H H' → Sh C H' v (g P q) → Q v H'
structure PrM (Z : Cz) (C CP : Addr) : Prop where
  get : CalI Z CX0 3 CP ["self", "word"] (spPrGet0 C CP)
  own : CalM Z CX0 6 CP "own" ["self", "word"] [] (spPrOf0 C CP qOwn)
  gen : CalM Z CX0 5 CP "general" ["self", "word"] [] (spPrOf0 C CP fun _ q => q.2)
  make : CalP Z CX0 1 CP "make" (spPrMk C CP (·.md))
  gmake : CalP Z CX0 1 CP "general_make" (spPrMk C CP (·.gn))
/-- the shares' own methods that states use -/
structure ShS (Z : Cz) (C : Addr) : Prop where
  lt : CalS Z CX0 6 C "__lt__" ["self", "other"] (spOrd C fun i => decide (i < 0))
  gt : CalS Z CX0 6 C "__gt__" ["self", "other"] (spOrd C fun i => decide (0 < i))
  eq : CalS Z CX0 6 C "__eq__" ["self", "other"] (spShEq Z.K C)
  add : CAdd Z C
  na : NumF Z.K C "add"
  mul : CMul Z C
  nm : NumF Z.K C "mul"
  by_ : CalM Z CX0 5 C "by" ["self", "other"] [] (spBy C)
  added : CalT Z CX0 6 C "added" (spAdded C)
def spSwitched (C CB CP : Addr) : Sp := fun vs H Q _ => ∃ x pz m b P mem n, vs = [x, pz, .ref m] ∧ BkAt C CB H x b ∧ PrAtS C CP H pz P ∧ PrG' P ∧ H m = some (.tup (mem.map V.str)) ∧ (∀ w ∈ mem, w ∈ P.ks.map (·.1)) ∧ b.tries = some n ∧ 0 < n ∧ mem.length ≤ 6 ∧ ∀ H', Same H H' → Q (.bl (b.switched P n mem)) H'
theorem pr_meth {C CP : Addr} {H : Hp} {x : V} {P : PrS} {m : Str} {R : Prop} (hb : PrAtS C CP H x P) (h1 : (m == ("own_make" : Str)) = false) (h2 : (m == ("own_general_make" : Str)) = false) (h3 : (m == ("pairs" : Str)) = false) (k : R) : ∃ a dx fs, x = V.ref a ∧ H a = some (.ins CP dx fs) ∧ fs.lookup m = none ∧ R := by
  obtain ⟨a, dx, va, vb, d, kvs, rfl, ha, _⟩ := hb
  exact ⟨a, dx, _, rfl, ha, prF_no _ _ _ _ h1 h2 h3, k⟩
theorem pr_ins {C CP : Addr} {H : Hp} {x : V} {P : PrS} (hb : PrAtS C CP H x P) : InsC CP H x := by
  obtain ⟨a, dx, va, vb, d, kvs, rfl, ha, _⟩ := hb
  exact ⟨a, dx, _, rfl, ha⟩
theorem pr_prop {C CP : Addr} {g : PrS → Int × Int} {H : Hp} {x : V} {P : PrS} {Q : VK} (hb : PrAtS C CP H x P) (k : ∀ v, Sh C H v (g P) → Q v H) : ∃ a dx fs, x = V.ref a ∧ H a = some (.ins CP dx fs) ∧ spPrMk C CP g (.ref a :: []) H Q E0 := by
  have hb' := hb
  obtain ⟨a, dx, va, vb, d, kvs, rfl, ha, _⟩ := hb
  exact ⟨a, dx, _, rfl, ha, _, P, rfl, hb', k⟩
theorem sh_meth {C : Addr} {H : Hp} {x : V} {q : Int × Int} {m : Str} {R : Prop} (h : Sh C H x q) (h1 : (m == ("own_top" : Str)) = false) (h2 : (m == ("own_under" : Str)) = false) (k : R) : ∃ a dx fs, x = V.ref a ∧ H a = some (.ins C dx fs) ∧ fs.lookup m = none ∧ R := by
  obtain ⟨a, dx, rfl, ha⟩ := h
  exact ⟨a, dx, _, rfl, ha, shF_no _ _ m h1 h2, k⟩
/-- the sizes on the way to the value -/
structure ValZ (b : Bk) (P : PrS) (n : Int) (mem : List Str) : Prop where
  s : Sz 1807 ((mem.map fun w => (lkP P w).1).foldl gAdd (0, 1))
  d : Sz 3614 (gBy' ((mem.map fun w => (lkP P w).1).foldl gAdd (0, 1)) n)
  m : Sz 300 (gMul b.factor P.md)
  v : Sz 3915 (b.val P n mem)
theorem val_sz {b : Bk} {P : PrS} {n : Int} {mem : List Str} (g : PrG' P) (hb : BkOk b) (hm : ∀ w ∈ mem, w ∈ P.ks.map (·.1)) (h6 : mem.length ≤ 6) (hn : 0 < n) (hn6 : n ≤ 6) : ValZ b P n mem := by
  have h1 : Sz 1807 ((mem.map fun w => (lkP P w).1).foldl gAdd (0, 1)) := by
    have := fold_sz (qs := mem.map fun w => (lkP P w).1) (fun q hq => by
      obtain ⟨w, hw, rfl⟩ := List.mem_map.mp hq
      exact (g.ks.q _ (kind_in g.ks (hm w hw))).1.1.z.up (by decide)) (mem.map fun w => (lkP P w).1).length (Nat.le_refl _)
    rw [List.take_length, List.length_map] at this
    exact this.up (by omega)
  have hz : Sz 1807 (n, 1) := ⟨by show (1 : Int) ≠ 0; decide, lt_up (m := 3) (by show n.natAbs < 2 ^ 3; omega) (by decide), by show (1 : Int).natAbs < 2 ^ 1807; exact lt_up (m := 1) (by decide) (by decide)⟩
  have h2 : Sz 3614 (gBy' ((mem.map fun w => (lkP P w).1).foldl gAdd (0, 1)) n) := h1.by_ hz (by show n ≠ 0; omega)
  have h3 : Sz 300 (gMul b.factor P.md) := hb.fz.mul' g.md.z
  exact ⟨h1, h2, h3, h2.add' h3⟩
section
variable {Z : Cz} {f C CB CP : Addr} {fd : FuncData}
theorem ok_switched (F : Fun Z.K "is_switched" "Book.is_switched" s_Book_is_switched f fd) (T : ShT Z C) (B : BkPr Z C CB) (M : PrM Z C CP) (S : ShS Z C) : Z.ok CX0 7 f fd ["self", "prices", "memory"] (spSwitched C CB CP) := by
  refine F.ok sc_Book_is_switched (fun vs H Q E h => ?_) (fun cdv A outer s H vs Q E hr h => ?_)
  · obtain ⟨x, pz, m, b, P, mem, n, rfl, _⟩ := h
    rfl
  · obtain ⟨x, pz, m, b, P, mem, n, rfl, hx, hP, g, hm, hw, ht, hn, h6, k⟩ := h
    refine ⟨_, (pss_cons (ps_setLc (i := 3) (own := [("word", 4)]) (g := gName 4) (tt := tYes) (by rfl) sc_Book_is_switched.nd rfl rfl (sw_true rfl rfl rfl (by decide +kernel)) (pi_tup (pv 2)) (blkOk_by (own := [("word", 4)]) (N := ["self", "prices", "memory", "runs", "word", "value"]) (sc := defScope s_Book_is_switched) (by decide +kernel)) (fun _ _ _ _ _ => (pg_name (i := 4) sc_Book_is_switched.nd rfl (Or.inl rfl))) (fun _ _ _ _ _ => pts_nil) (fun _ _ _ _ _ => (pe_ix (show IxR _ (rIxT Z.K) from ix_tup) (pe_ixP M.get (hr.mono (by decide)) pass0 (pv 1) (pv 4)) pe_int (fun _ _ => rfl))))
      (pss_cons (ps_set (i := 5) sc_Book_is_switched.nd rfl (Or.inl rfl) (pe_op (op_num (op := .Add) S.add S.na (hr.mono (by decide)) pass0) (pe_calM S.by_ (hr.mono (by decide)) pass0 (pe_calTV S.added hr pass0 (pe_glob (v := .ref C) rfl T.mgC rfl) (pv 3)) (pa_cons (pe_calP B.tries (hr.mono (by decide)) pass0 (pv 0) (by rfl)) pa_nil)) (pe_op (op_num (op := .Mult) S.mul S.nm (hr.mono (by decide)) pass0) (pe_calP B.factor (hr.mono (by decide)) pass0 (pv 0) (by rfl)) (pe_calP M.make (hr.mono (by decide)) pass0 (pv 1) (by rfl)))))
      (pss_one (ps_ret (pe_or (pe_cmpR (op_cmp (op := .Lt) S.lt hr pass0) (pe_calP B.told (hr.mono (by decide)) pass0 (pv 0) (by rfl)) (pv 5) (nomark _)) (pe_one (pe_and (pe_calP B.equal (hr.mono (by decide)) pass0 (pv 0) (by rfl)) (pe_one (pe_cmpR (op_cmp (op := .Eq) S.eq hr pass0) (pe_calP B.told (hr.mono (by decide)) pass0 (pv 0) (by rfl)) (pv 5) (nomark _)))))))))), ?_⟩
    have hb : BkOk b := by obtain ⟨_, _, _, _, _, _, h⟩ := hx; exact h
    have hn6 := (hb.tr n ht).2
    have vz := val_sz g hb hw h6 hn hn6
    refine ⟨_, rfl, m, rfl, ⟨_, SqT.of hm⟩, fun D hD => ?_⟩
    refine lcR hr_same (walk_tup (K := Z.K) (a := m) (xs := mem.map V.str)) yat (bs := mem) (fun y w H' => Sh C H' y (lkP P w).1) (by rw [List.length_map]) (by rw [List.length_map]; omega) hD trivial (fun H2 e2 => SqT.of (e2 _ _ hm)) (fun y w H2 H3 h e => h.mono e) (fun y w H2 us zs h hd => ?_) ?_ ?_
    · obtain ⟨a, dx, rfl, ha⟩ := h
      exact ⟨a, dx, rfl, by rw [upd_ne fun z => by rw [z, hd] at ha; cases ha]; exact ha⟩
    · rintro j y w H2 acc Qe hy hwj e2 hD2 kk
      rw [List.getElem?_map, hwj] at hy
      cases hy
      have hP2 := hP.mono e2
      refine ⟨_, rfl, _, rfl, pr_ins hP2, pz, w, lkP P w, P, rfl, hP2, g.ks, kind_in g.ks (hw w (List.mem_of_getElem? hwj)), fun v H3 e3 hv => ?_⟩
      obtain ⟨t, y1, y2, rfl, ht', h1, h2⟩ := hv
      exact ⟨t, _, _, _, rfl, rfl, SqT.of ht', rfl, kk y1 H3 e3 h1⟩
    rintro H2 ys e2 hD2 al2
    refine ⟨rfl, _, rfl, D, ys, rfl, .inr (SqL.of hD2), mem.map (fun w => (lkP P w).1), ?_, fun q hq => ?_, by rw [List.length_map]; omega, fun v1 H3 e3 hv1 => ?_⟩
    · refine ⟨by rw [List.length_map]; exact al2.1, fun i v q h1 h2 => ?_⟩
      rw [List.getElem?_map] at h2
      cases hmi : mem[i]? with
      | none => rw [hmi] at h2; cases h2
      | some w =>
        rw [hmi] at h2
        cases h2
        exact .inl (al2.2 i v w h1 hmi)
    · obtain ⟨w, hw', rfl⟩ := List.mem_map.mp hq
      exact (g.ks.q _ (kind_in g.ks (hw w hw'))).1.1.z.up (by decide)
    have e23 := e2.trans e3
    have hP3 := hP.mono e23
    have hx3 := hx.mono e23
    have zn : Sz 4000 (n, 1) := ⟨by show (1 : Int) ≠ 0; decide, lt_up (m := 3) (by show n.natAbs < 2 ^ 3; omega) (by decide), by show (1 : Int).natAbs < 2 ^ 4000; exact lt_up (m := 1) (by decide) (by decide)⟩
    refine sh_meth hv1 (by decide) (by decide) ⟨_, rfl, bk_prop hx3 fun vt hvt => ?_⟩
    subst hvt
    rw [ht]
    refine ⟨v1, .int n, _, (n, 1), rfl, hv1, .inr ⟨n, rfl, rfl⟩, vz.s.up (by decide), zn, (by show n ≠ 0; omega), fun v2 H4 e4 hv2 => ?_⟩
    refine ⟨_, rfl, bk_prop (hx3.mono e4) fun vf hvf => ⟨_, rfl, pr_prop (hP3.mono e4) fun vm hvm => ?_⟩⟩
    refine ⟨hvf.ins, .inl hvm.ins, vf, vm, b.factor, P.md, rfl, hvf, .inl hvm, hb.fz.up (by decide), g.md.z.up (by decide), fun v3 H5 e5 hv3 => ?_⟩
    refine ⟨(hv2.mono e5).ins, .inl hv3.ins, _, _, _, _, rfl, hv2.mono e5, .inl hv3, vz.d.up (by decide), vz.m.up (by decide), fun v4 H6 e6 hv4 => ?_⟩
    have e06 := e23.trans (e4.trans (e5.trans e6))
    refine ⟨_, rfl, bk_prop (hx.mono e06) fun vo hvo => ⟨_, rfl, ?_⟩⟩
    refine ⟨hvo.ins, Nb.nf T (.inl hv4), vo, v4, b.told, b.val P n mem, rfl, hvo, .inl hv4, hb.tz.up (by decide), vz.v.up (by decide), fun H7 e7 => ⟨_, rfl, ?_⟩⟩
    have e07 := e06.trans e7
    have k7 := k H7 e07
    unfold Bk.switched at k7
    refine iteD (fun hlt => ?_) (fun hlt => ?_)
    · rw [decide_eq_true hlt, Bool.true_or] at k7
      exact k7
    · rw [decide_eq_false hlt, Bool.false_or] at k7
      refine ⟨_, rfl, bk_prop (hx.mono e07) fun ve hve => ?_⟩
      subst hve
      refine ⟨_, rfl, ?_⟩
      cases he : b.equal with
      | false =>
        rw [he, Bool.false_and] at k7
        exact iteF k7
      | true =>
        refine iteT ⟨_, rfl, bk_prop (hx.mono e07) fun vo2 hvo2 => ⟨_, rfl, ?_⟩⟩
        have hv47 := hv4.mono e7
        refine ⟨hvo2.ins, Nb.nf T (.inl hv47), vo2, v4, b.told, rfl, hvo2, .inl ⟨b.val P n mem, .inl hv47, hb.tz.up (by decide), vz.v.up (by decide), fun H8 e8 => ?_⟩⟩
        have k8 := k H8 (e07.trans e8)
        unfold Bk.switched at k8
        rw [decide_eq_false hlt, Bool.false_or, he, Bool.true_and] at k8
        exact k8
end
end Ps

/-! States of books: behind a try. -/
namespace Ps
open PySem PySem.Spec PyProof.Rows PySem.W L2 LamX

def spTry (T : List (Addr × Str)) (C CB CP : Addr) : Sp := fun vs H Q _ => ∃ x pz sv b P kp mem w, vs = [x, pz, sv, .str w] ∧ BkAt C CB H x b ∧ PrAtS C CP H pz P ∧ PrG' P ∧ StV H sv (.own kp mem) ∧ b.wf P (.own kp mem) ∧ w ∈ P.ks.map (·.1) ∧ Tabs T H ∧ ∀ v H', Grow T H H' → StV H' v (b.behindTry P kp mem w) → Q v H'
theorem BkAt.ok {C CB : Addr} {H : Hp} {v : V} {b : Bk} (h : BkAt C CB H v b) : BkOk b := by
  obtain ⟨_, _, _, _, _, _, h⟩ := h
  exact h
theorem cut_neg {l : List V} {n : Int} (hn : 0 < n) : cutV l (some (-n)) none = l.drop (l.length - n.toNat) := by
  unfold cutV
  rw [HT.sIx_none]
  have e : HT.sIx l.length 0 (some (-n)) = l.length - n.toNat := by
    show (if -n < 0 then (-n + (l.length : Int)).toNat else _) = _
    rw [if_pos (by omega)]
    omega
  rw [e]
  exact List.take_of_length_le (by rw [List.length_drop]; omega)
theorem cut_whole {l : List V} {n : Int} (hn : 0 < n) (h : HT.sIx l.length 0 (some (-n)) = 0 ∧ HT.sIx l.length l.length none = l.length) : l.drop (l.length - n.toNat) = l := by
  have e : HT.sIx l.length 0 (some (-n)) = l.length - n.toNat := by
    show (if -n < 0 then (-n + (l.length : Int)).toNat else _) = _
    rw [if_pos (by omega)]
    omega
  rw [← e, h.1]
  rfl
theorem memo_len {b : Bk} {P : PrS} {kp : Bool} {mem : List Str} {n : Int} (hw : b.wf P (.own kp mem)) (ht : b.tries = some n) (hn : 0 < n) (w : Str) : ((b.memo n mem w).length : Int) ≤ n := by
  obtain ⟨_, _, h⟩ := hw
  rw [ht] at h
  unfold Bk.memo
  cases hs : b.sliding with
  | true =>
    rw [if_pos rfl, List.length_drop]
    omega
  | false =>
    simp only [hs] at h
    rw [if_neg (by decide), (srtW_perm _).length_eq, List.length_append]
    have := h.1
    show ((mem.length + 1 : Nat) : Int) ≤ n
    omega
theorem memo_in {b : Bk} {P : PrS} {kp : Bool} {mem : List Str} {n : Int} (hw : b.wf P (.own kp mem)) {w : Str} (h : w ∈ P.ks.map (·.1)) : ∀ z ∈ b.memo n mem w, z ∈ P.ks.map (·.1) := by
  have hm : ∀ z ∈ mem ++ [w], z ∈ P.ks.map (·.1) := fun z hz => by
    rcases List.mem_append.mp hz with hz | hz
    · exact hw.2.1 z hz
    · rw [List.mem_singleton.mp hz]; exact h
  intro z hz
  unfold Bk.memo at hz
  split at hz
  · exact hm z (List.mem_of_mem_drop hz)
  · exact hm z ((srtW_perm _).mem_iff.mp hz)
theorem trV_len (t : Option Int) (n : Nat) : decide (V.int (n : Nat) = trV t) = decide (t = some (n : Int)) := by
  cases t with
  | none => rfl
  | some i => exact decide_eq_decide.mpr ⟨fun z => by rw [V.int.inj z], fun z => by rw [Option.some.inj z]; rfl⟩
section
variable {Z : Cz} {f C CB CP : Addr} {fd : FuncData}
theorem ok_try {T0 : List (Addr × Str)} (F : Fun Z.K "behind_try" "Book.behind_try" s_Book_behind_try f fd) (W : WdT Z) (tp : Z.mg "tuple" = none) (B : BkPr Z C CB) (c_general_state : CGenSt Z C CB) (c_is_switched : CalM Z CX0 7 CB "is_switched" ["self", "prices", "memory"] [] (spSwitched C CB CP))
    (c_ascending : Cal Z CX0 2 "ascending" ["words"] [] (spAsc Z.K T0)) : Z.ok CX0 8 f fd ["self", "prices", "state", "kind"] (spTry T0 C CB CP) := by
  refine F.ok sc_Book_behind_try (fun vs H Q E h => ?_) (fun cdv A outer s H vs Q E hr h => ?_)
  · obtain ⟨x, pz, sv, b, P, kp, mem, w, rfl, _⟩ := h
    rfl
  · obtain ⟨x, pz, sv, b, P, kp, mem, w, rfl, hx, hP, g, hs, hw, hwk, hT, k⟩ := h
    refine ⟨_, (pss_cons (ps_asg (pv 2) (pg_tup (by rfl) (pgs_cons (pg_name (i := 4) sc_Book_behind_try.nd rfl (Or.inl rfl)) (pgs_cons (pg_name (i := 5) sc_Book_behind_try.nd rfl (Or.inl rfl)) (pgs_cons (pg_name (i := 6) sc_Book_behind_try.nd rfl (Or.inl rfl)) pgs_nil)))))
      (pss_cons (ps_if (pt_cmpR op_isN (pe_calP B.tries (hr.mono (by decide)) pass0 (pv 0) (by rfl)) pe_non (nomark _))
      (pss_one (ps_ret (pv 2)))
      pss_nil)
      (pss_cons (ps_set (i := 6) sc_Book_behind_try.nd rfl (Or.inl rfl) (pe_tup (StX.pa_star (pv 6) (pa_cons (pv 3) pa_nil))))
      (C8.pss_cut (ps_set (i := 6) sc_Book_behind_try.nd rfl (Or.inl rfl) (pe_ifExp (pt_val (pe_calP B.sliding (hr.mono (by decide)) pass0 (pv 0) (by rfl))) (pe_slice sl_tupA (pv 6) (po_some (pe_un un_neg (pe_calP B.tries (hr.mono (by decide)) pass0 (pv 0) (by rfl)))) po_none) (pe_callTy call_tuple_of (by rfl) tp (by decide +kernel) (pa_cons (pe_cal c_ascending (hr.mono (by decide)) (by rfl) pass0 (pa_cons (pv 6) pa_nil)) pa_nil))))
      (pss_cons (ps_if (PW.pt (pw_and (pt_cmpR op_eq (pe_callB call_len_seq (by rfl) W.len PySem.boot_len (pa_cons (pv 6) pa_nil)) (pe_calP B.tries (hr.mono (by decide)) pass0 (pv 0) (by rfl)) (nomark _)) (pw_and1 (pt_val (pe_calM c_is_switched (hr.mono (by decide)) pass0 (pv 0) (pa_cons (pv 1) (pa_cons (pv 6) pa_nil)))))))
      (pss_one (ps_ret (pe_calM c_general_state (hr.mono (by decide)) pass0 (pv 0) (pa_cons (pv 5) pa_nil))))
      pss_nil)
      (pss_cons (ps_if (PW.pt (pw_and (pt_cmpR op_eq (pe_callB call_len_seq (by rfl) W.len PySem.boot_len (pa_cons (pv 6) pa_nil)) (pe_calP B.tries (hr.mono (by decide)) pass0 (pv 0) (by rfl)) (nomark _)) (pw_and1 (pt_not (pt_val (pe_calP B.sliding (hr.mono (by decide)) pass0 (pv 0) (by rfl)))))))
      (pss_one (ps_set (i := 6) sc_Book_behind_try.nd rfl (Or.inl rfl) (pe_tup pa_nil)))
      pss_nil)
      (pss_one (ps_ret (pe_tup (pa_cons pe_str (pa_cons (pv 5) (pa_cons (pv 6) pa_nil)))))))))))), ?_⟩
    have hb := hx.ok
    have hs' := hs
    obtain ⟨t, m, rfl, ht, hm⟩ := hs
    refine ⟨_, rfl, t, _, rfl, SqT.of ht, rfl, _, _, rfl, _, _, rfl, _, _, rfl, rfl, ?_⟩
    show tSeq _ _ _ [some x, some pz, some (.ref t), some (.str w), some (.str "own"), some (.bl kp), some (.ref m)] H
    refine ⟨_, rfl, bk_prop hx fun vt hvt => ?_⟩
    subst hvt
    refine ⟨rfl, _, rfl, ?_⟩
    have hb := hx.ok
    cases htr : b.tries with
    | none =>
      refine iteT ⟨_, rfl, k _ H (Gr.refl H) ?_⟩
      have e : b.behindTry P kp mem w = .own kp mem := by
        unfold Bk.behindTry
        rw [htr]
      rw [e]
      exact hs'
    | some n =>
    refine iteF ?_
    have hn0 : 0 < n := by
      have h0 := (hb.tr n htr).1
      have h1 : ¬ n = 0 := fun z => hw.1 (by rw [htr, z])
      omega
    have hn6 := (hb.tr n htr).2
    have hm' : H m = some (.tup (mem.map V.str)) := hm
    have hlm : mem.length ≤ 6 := by
      obtain ⟨_, _, h⟩ := hw
      rw [htr] at h
      cases hs : b.sliding with
      | true => simp only [hs] at h; have : (mem.length : Int) ≤ n := h; omega
      | false => simp only [hs] at h; have := h.1; omega
    refine ⟨_, rfl, m, _, rfl, .inl (SqT.of hm'), _, rfl, ?_, fun p hp => ?_⟩
    · rw [List.length_append, List.length_map]
      exact Nat.le_of_lt (small1000' (show mem.length + 1 ≤ 100000 by omega))
    have e1 := Same.upd (o := .tup (mem.map V.str ++ [.str w])) hp
    have hl1 : (mem.map V.str ++ [V.str w]) = (mem ++ [w]).map V.str := by simp
    have hp1 : (upd H p (.tup (mem.map V.str ++ [.str w]))) p = some (.tup ((mem ++ [w]).map V.str)) := by rw [upd_same, hl1]
    show tSeq _ _ _ [some x, some pz, some (.ref t), some (.str w), some (.str "own"), some (.bl kp), some (.ref p)] (upd H p (.tup (mem.map V.str ++ [.str w])))
    generalize (upd H p (.tup (mem.map V.str ++ [.str w]))) = H1 at e1 hp1 ⊢
    -- the memory
    have ml := memo_len hw htr hn0 w
    have mi := memo_in (n := n) hw hwk
    refine ⟨fun σ H2 => ∃ q, σ = [some x, some pz, some (.ref t), some (.str w), some (.str "own"), some (.bl kp), some (.ref q)] ∧ Grow T0 H H2 ∧ H2 q = some (.tup ((b.memo n mem w).map V.str)), ?_, ?_⟩
    · refine ⟨_, rfl, bk_prop (hx.mono e1) fun vs hvs => ?_⟩
      subst hvs
      refine ⟨_, rfl, ?_⟩
      cases hsl : b.sliding with
      | true =>
        refine iteT ⟨_, rfl, ⟨_, rfl, bk_prop (hx.mono e1) fun vt hvt => ?_⟩⟩
        subst hvt
        rw [htr]
        have em : b.memo n mem w = (mem ++ [w]).drop ((mem ++ [w]).length - n.toNat) := by
          unfold Bk.memo
          rw [if_pos hsl]
        refine ⟨n, rfl, -n, rfl, p, _, rfl, SqT.of hp1, fun hwh => ⟨p, rfl, .of e1, ?_⟩, fun hwh q hq => ?_⟩
        · have := cut_whole hn0 hwh
          rw [List.length_map] at this
          rw [hp1, em, List.map_drop, this]
        · refine ⟨q, rfl, .of (e1.trans (Same.upd hq)), ?_⟩
          rw [upd_same, cut_neg hn0, List.length_map, em, List.map_drop]
      | false =>
        have em : b.memo n mem w = srtW (mem ++ [w]) := by
          unfold Bk.memo
          rw [if_neg (by rw [hsl]; decide)]
        refine iteF ⟨_, rfl, p, _, rfl, hT.ext e1, .inr (.inl (SqT.of hp1)), fun y hy => ?_, fun l H2 g2 hl hl2 => ?_⟩
        · obtain ⟨z, _, rfl⟩ := List.mem_map.mp hy
          exact ktx_w
        · rw [srt_words] at hl2
          refine ⟨l, _, rfl, .inl ⟨SqL.of hl2, fun q hq => ⟨q, rfl, (Gr.of e1).trans (g2.trans (.new hq)), ?_⟩⟩⟩
          rw [upd_same, em]
    · rintro σ H2 ⟨q, rfl, g2, hq2⟩
      have hx2 := hx.gr g2
      have len6 : (b.memo n mem w).length ≤ 6 := by omega
      refine ⟨_, rfl, q, _, rfl, .inr (SqT.of hq2), _, rfl, bk_prop hx2 fun vt hvt => ?_⟩
      subst hvt
      rw [List.length_map]
      refine ⟨(by rw [htr]; rfl), _, rfl, ?_⟩
      rw [trV_len]
      have el : decide (b.tries = some ((b.memo n mem w).length : Int)) = decide (((b.memo n mem w).length : Int) = n) := by
        rw [htr]
        exact decide_eq_decide.mpr ⟨fun z => (Option.some.inj z).symm, fun z => by rw [z]⟩
      rw [el]
      have ek : b.behindTry P kp mem w = if decide (((b.memo n mem w).length : Int) = n) && b.switched P n (b.memo n mem w) then b.genSt kp else if decide (((b.memo n mem w).length : Int) = n) && !b.sliding then .own kp [] else .own kp (b.memo n mem w) := by
        unfold Bk.behindTry
        rw [htr]
      rw [ek] at k
      by_cases hl : ((b.memo n mem w).length : Int) = n
      · rw [decide_eq_true hl] at k ⊢
        rw [Bool.true_and, Bool.true_and] at k
        refine iteT ⟨_, rfl, bk_meth hx2 (by decide) ⟨_, rfl, _, rfl, x, pz, q, b, P, b.memo n mem w, n, rfl, hx2, hP.gr g2, g, hq2, mi, htr, hn0, len6, fun H3 e3 => ⟨_, rfl, ?_⟩⟩⟩
        have hx3 := hx2.mono e3
        have g3 := g2.trans (.of e3)
        cases hsw : b.switched P n (b.memo n mem w) with
        | true =>
          rw [hsw, if_pos rfl] at k
          refine iteT ⟨_, rfl, bk_meth hx3 (by decide) ⟨_, rfl, x, b, kp, rfl, hx3, fun v H4 e4 hv => k v H4 (g3.trans (.of e4)) hv⟩⟩
        | false =>
          rw [hsw, if_neg (by decide)] at k
          refine iteF ⟨_, rfl, q, _, rfl, .inr (SqT.of (e3 _ _ hq2)), _, rfl, bk_prop hx3 fun vt hvt => ?_⟩
          subst hvt
          rw [List.length_map]
          refine ⟨(by rw [htr]; rfl), _, rfl, ?_⟩
          rw [trV_len, el, decide_eq_true hl]
          refine iteT ⟨_, rfl, bk_prop hx3 fun vs hvs => ?_⟩
          subst hvs
          refine ⟨_, rfl, ?_⟩
          cases hsl : b.sliding with
          | true =>
            rw [hsl, if_neg (by decide)] at k
            refine iteF ⟨_, rfl, _, rfl, (by show 3 ≤ sizeLine; decide), fun t2 ht2 => ?_⟩
            exact k _ _ (g3.trans (.new ht2)) ⟨t2, q, rfl, upd_same, (Same.upd ht2) _ _ (e3 _ _ hq2)⟩
          | false =>
            rw [hsl, if_pos (by decide)] at k
            refine iteT ⟨Nat.zero_le _, fun r hr' => ?_⟩
            refine ⟨_, rfl, _, rfl, (by show 3 ≤ sizeLine; decide), fun t2 ht2 => ?_⟩
            exact k _ _ (g3.trans ((Gr.new hr').trans (.new ht2))) ⟨t2, r, rfl, upd_same, (Same.upd ht2) _ _ upd_same⟩
      · rw [decide_eq_false hl] at k ⊢
        rw [Bool.false_and, Bool.false_and, if_neg (by decide), if_neg (by decide)] at k
        refine iteF ⟨_, rfl, q, _, rfl, .inr (SqT.of hq2), _, rfl, bk_prop hx2 fun vt hvt => ?_⟩
        subst hvt
        rw [List.length_map]
        refine ⟨(by rw [htr]; rfl), _, rfl, ?_⟩
        rw [trV_len, el, decide_eq_false hl]
        refine iteF ⟨_, rfl, _, rfl, (by show 3 ≤ sizeLine; decide), fun t2 ht2 => ?_⟩
        exact k _ _ (g2.trans (.new ht2)) ⟨t2, q, rfl, upd_same, (Same.upd ht2) _ _ hq2⟩
end
end Ps

/-! States of books: behind a look, behind the general plan; what is taken. -/
namespace Ps
open PySem PySem.Spec PyProof.Rows PySem.W L2 LamX

def spLook (C CB CP : Addr) : Sp := fun vs H Q _ => ∃ x pz sv b P kp c w, vs = [x, pz, sv, .str w] ∧ BkAt C CB H x b ∧ PrAtS C CP H pz P ∧ PrG' P ∧ StV H sv (.gen kp c) ∧ w ∈ P.ks.map (·.1) ∧ ∀ v H', Same H H' → StV H' v (b.behindLook P kp w) → Q v H'
def spBGen (C CB CP : Addr) : Sp := fun vs H Q _ => ∃ x pz sv b P kp c w, vs = [x, pz, sv, .str w] ∧ BkAt C CB H x b ∧ PrAtS C CP H pz P ∧ PrG' P ∧ StV H sv (.gen kp c) ∧ b.wf P (.gen kp c) ∧ w ∈ P.ks.map (·.1) ∧ ∀ v H', Same H H' → StV H' v (b.behindGen P c w) → Q v H'
/-- plan, cost, state behind -/
def TkV (C : Addr) (H : Hp) (v : V) (b : Bk) (P : PrS) (s : BSt) (w : Str) : Prop := ∃ t c st, v = .ref t ∧ H t = some (.tup [plV (b.isOwn s), c, st]) ∧ Sh C H c (b.cost P s w) ∧ StV H st (b.next P s w)
def spTaken (T : List (Addr × Str)) (C CB CP : Addr) : Sp := fun vs H Q _ => ∃ x pz sv b P s w, vs = [x, pz, sv, .str w] ∧ BkAt C CB H x b ∧ PrAtS C CP H pz P ∧ PrG' P ∧ StV H sv s ∧ b.wf P s ∧ w ∈ P.ks.map (·.1) ∧ Tabs T H ∧ ∀ v H', Grow T H H' → TkV C H' v b P s w → Q v H'
section
variable {Z : Cz} {f C CB CP : Addr} {fd : FuncData}
theorem ok_look (F : Fun Z.K "behind_look" "Book.behind_look" s_Book_behind_look f fd) (T : ShT Z C) (B : BkPr Z C CB) (M : PrM Z C CP) (S : ShS Z C) (c_general_state : CGenSt Z C CB) (c_ended : CalM Z CX0 6 CB "ended" ["self", "kept"] [] (spGenSt C CB Bk.ended)) :
    Z.ok CX0 7 f fd ["self", "prices", "state", "kind"] (spLook C CB CP) := by
  refine F.ok sc_Book_behind_look (fun vs H Q E h => ?_) (fun cdv A outer s H vs Q E hr h => ?_)
  · obtain ⟨x, pz, sv, b, P, kp, c, w, rfl, _⟩ := h
    rfl
  · obtain ⟨x, pz, sv, b, P, kp, c, w, rfl, hx, hP, g, hs, hwk, k⟩ := h
    refine ⟨_, (pss_cons (ps_if (pt_cmpR (op_cmp (op := .Lt) S.lt hr pass0) (pe_op (op_num (op := .Add) S.add S.na (hr.mono (by decide)) pass0) (pe_ix ix_tup (pe_ixP M.get (hr.mono (by decide)) pass0 (pv 1) (pv 3)) pe_int (fun _ _ => rfl)) (pe_op (op_num (op := .Mult) S.mul S.nm (hr.mono (by decide)) pass0) (pe_calP B.factor (hr.mono (by decide)) pass0 (pv 0) (by rfl)) (pe_calP M.make (hr.mono (by decide)) pass0 (pv 1) (by rfl)))) (pe_calP B.told (hr.mono (by decide)) pass0 (pv 0) (by rfl)) (nomark _))
      (pss_one (ps_ret (pe_calM c_ended (hr.mono (by decide)) pass0 (pv 0) (pa_cons (pe_ix ix_tup (pv 2) pe_int (fun _ _ => rfl)) pa_nil))))
      pss_nil)
      (pss_one (ps_ret (pe_calM c_general_state (hr.mono (by decide)) pass0 (pv 0) (pa_cons (pe_ix ix_tup (pv 2) pe_int (fun _ _ => rfl)) pa_nil))))), ?_⟩
    have hb := hx.ok
    have hk := kind_in g.ks hwk
    obtain ⟨⟨gq1, _⟩, _⟩ := g.ks.q _ hk
    have hs' := hs
    obtain ⟨t, m, rfl, ht, hm⟩ := hs
    refine ⟨_, rfl, _, rfl, pr_ins hP, pz, w, lkP P w, P, rfl, hP, g.ks, hk, fun v H1 e1 hv => ?_⟩
    obtain ⟨t1, y1, y2, rfl, ht1, h1, h2⟩ := hv
    refine ⟨t1, _, _, _, rfl, rfl, SqT.of ht1, rfl, ?_⟩
    refine ⟨_, rfl, bk_prop (hx.mono e1) fun vf hvf => ⟨_, rfl, pr_prop (hP.mono e1) fun vm hvm => ?_⟩⟩
    refine ⟨hvf.ins, .inl hvm.ins, vf, vm, b.factor, P.md, rfl, hvf, .inl hvm, hb.fz.up (by decide), g.md.z.up (by decide), fun v3 H3 e3 hv3 => ?_⟩
    have zm : Sz 300 (gMul b.factor P.md) := hb.fz.mul' g.md.z
    have h13 := h1.mono e3
    refine ⟨h13.ins, .inl hv3.ins, _, _, _, _, rfl, h13, .inl hv3, gq1.z.up (by decide), zm.up (by decide), fun v4 H4 e4 hv4 => ?_⟩
    have zv : Sz 501 (gAdd (lkP P w).1 (gMul b.factor P.md)) := gq1.z.add' zm
    have e14 := e1.trans (e3.trans e4)
    refine ⟨_, rfl, bk_prop (hx.mono e14) fun vo hvo => ?_⟩
    refine ⟨hv4.ins, Nb.nf T (.inl hvo), _, _, _, _, rfl, hv4, .inl hvo, zv.up (by decide), hb.tz.up (by decide), fun H5 e5 => ⟨_, rfl, ?_⟩⟩
    have e15 := e14.trans e5
    have hx5 := hx.mono e15
    unfold Bk.behindLook at k
    refine iteD (fun hlt => ?_) (fun hlt => ?_)
    · rw [if_pos hlt] at k
      exact ⟨_, rfl, bk_meth hx5 (by decide) ⟨_, rfl, t, _, _, _, rfl, rfl, SqT.of (e15 _ _ ht), rfl, x, b, kp, rfl, hx5, fun v H6 e6 hv => k v H6 (e15.trans e6) hv⟩⟩
    · rw [if_neg hlt] at k
      exact ⟨_, rfl, bk_meth hx5 (by decide) ⟨_, rfl, t, _, _, _, rfl, rfl, SqT.of (e15 _ _ ht), rfl, x, b, kp, rfl, hx5, fun v H6 e6 hv => k v H6 (e15.trans e6) hv⟩⟩
theorem ok_bgen (F : Fun Z.K "behind_general" "Book.behind_general" s_Book_behind_general f fd) (T : ShT Z C) (B : BkPr Z C CB) (M : PrM Z C CP) (S : ShS Z C) (c_looks : CLooks Z C CB) (c_ended : CalM Z CX0 6 CB "ended" ["self", "kept"] [] (spGenSt C CB Bk.ended)) :
    Z.ok CX0 7 f fd ["self", "prices", "state", "kind"] (spBGen C CB CP) := by
  refine F.ok sc_Book_behind_general (fun vs H Q E h => ?_) (fun cdv A outer s H vs Q E hr h => ?_)
  · obtain ⟨x, pz, sv, b, P, kp, c, w, rfl, _⟩ := h
    rfl
  · obtain ⟨x, pz, sv, b, P, kp, c, w, rfl, hx, hP, g, hs, hwf, hwk, k⟩ := h
    refine ⟨_, (C8.pss_cut (ps_if (PW.pt (pw_and (pt_cmpR op_eq (pe_ix ix_seq (pe_calP B.after (hr.mono (by decide)) pass0 (pv 0) (by rfl)) pe_int (fun _ _ => rfl)) pe_str (nomark _)) (pw_and1 (pt_cmpR (op_cmp (op := .Gt) S.gt hr pass0) (pe_calM M.gen (hr.mono (by decide)) pass0 (pv 1) (pa_cons (pv 3) pa_nil)) (pe_op (op_num (op := .Mult) S.mul S.nm (hr.mono (by decide)) pass0) (pe_ix ix_tup (pe_calP B.after (hr.mono (by decide)) pass0 (pv 0) (by rfl)) pe_int (fun _ _ => rfl)) (pe_calP B.told (hr.mono (by decide)) pass0 (pv 0) (by rfl))) (nomark _)))))
      (pss_one (ps_ret (pe_calM c_ended (hr.mono (by decide)) pass0 (pv 0) (pa_cons pe_bl pa_nil))))
      pss_nil)
      (pss_cons (ps_if (pt_cmpR op_notN (pe_calM0 c_looks (hr.mono (by decide)) pass0 (pv 0)) pe_non (nomark _))
      (pss_one (ps_ret (pe_tup (pa_cons pe_str (pa_cons pe_bl (pa_cons (pe_tup (pa_cons (pe_op op_add (pe_ix ix_tup (pe_ix ix_tup (pv 2) pe_int (fun _ _ => rfl)) pe_int (fun _ _ => rfl)) pe_int) pa_nil)) pa_nil))))))
      pss_nil)
      (pss_one (ps_ret (pe_tup (pa_cons pe_str (pa_cons pe_bl (pa_cons (pe_tup pa_nil) pa_nil)))))))), ?_⟩
    have hb := hx.ok
    have hk := kind_in g.ks hwk
    obtain ⟨_, ⟨gq2, _⟩⟩ := g.ks.q _ hk
    obtain ⟨t, m, rfl, ht, hm⟩ := hs
    obtain ⟨_, hwl⟩ := hwf
    refine ⟨fun σ H1 => σ = [some x, some pz, some (.ref t), some (.str w)] ∧ Same H H1 ∧ b.doubted P w = false, ?_, ?_⟩
    · refine ⟨_, rfl, bk_prop hx fun va hva => ?_⟩
      cases ha : b.after with
      | ever =>
        rw [ha] at hva
        have hva : va = .str "ever" := hva
        subst hva
        exact .inr (.inr ⟨_, _, _, rfl, rfl, (by decide +kernel), rfl, rfl, _, rfl, iteF (iteF ⟨rfl, Same.refl H, by unfold Bk.doubted; rw [ha]⟩)⟩)
      | look i =>
        rw [ha] at hva
        obtain ⟨t', rfl, ht'⟩ := hva
        exact .inr (.inl ⟨t', _, _, _, rfl, rfl, SqT.of ht', rfl, rfl, _, rfl, iteF (iteF ⟨rfl, Same.refl H, by unfold Bk.doubted; rw [ha]⟩)⟩)
      | doubt q =>
        rw [ha] at hva
        obtain ⟨t', wv, rfl, ht', hwv⟩ := hva
        have hq : Lw q ∧ Sz 100 q ∧ 0 < q.1 := by have := hb.af; rw [ha] at this; exact this
        refine .inr (.inl ⟨t', _, _, _, rfl, rfl, SqT.of ht', rfl, rfl, _, rfl, iteT ?_⟩)
        refine ⟨_, rfl, pr_meth hP (by decide) (by decide) (by decide) ⟨_, rfl, pz, w, lkP P w, P, rfl, hP, g, hk, fun v H1 e1 hv => ?_⟩⟩
        have hx1 := hx.mono e1
        refine ⟨_, rfl, bk_prop hx1 fun va2 hva2 => ?_⟩
        rw [ha] at hva2
        obtain ⟨t2, w2, rfl, ht2, hw2⟩ := hva2
        refine ⟨t2, _, _, _, rfl, rfl, SqT.of ht2, rfl, ?_⟩
        refine ⟨_, rfl, bk_prop hx1 fun vo hvo => ?_⟩
        refine ⟨hw2.ins, .inl hvo.ins, w2, vo, q, b.told, rfl, hw2, .inl hvo, hq.2.1.up (by decide), hb.tz.up (by decide), fun v3 H3 e3 hv3 => ?_⟩
        have zm : Sz 200 (gMul q b.told) := hq.2.1.mul' hb.tz
        have hv' := hv.mono e3
        refine ⟨hv'.ins, Nb.nf T (.inl hv3), _, _, _, _, rfl, hv', .inl hv3, gq2.z.up (by decide), zm.up (by decide), fun H4 e4 => ⟨_, rfl, ?_⟩⟩
        have e14 := e1.trans (e3.trans e4)
        have hx4 := hx.mono e14
        have ed : b.doubted P w = decide (0 < gMin (lkP P w).2 (gMul q b.told)) := by unfold Bk.doubted; rw [ha]
        refine iteD (fun hlt => ?_) (fun hlt => ⟨rfl, e14, by rw [ed, decide_eq_false hlt]⟩)
        unfold Bk.behindGen at k
        rw [ed, decide_eq_true hlt, if_pos rfl] at k
        exact ⟨_, rfl, bk_meth hx4 (by decide) ⟨x, b, true, rfl, hx4, fun v H6 e6 hv => k v H6 (e14.trans e6) hv⟩⟩
    · rintro σ H1 ⟨rfl, e1, hd⟩
      unfold Bk.behindGen at k
      rw [hd, if_neg (by decide)] at k
      have hx1 := hx.mono e1
      refine ⟨_, rfl, bk_meth hx1 (by decide) ⟨x, b, rfl, hx1, rfl, _, rfl, ?_⟩⟩
      cases hl : b.looks with
      | none =>
        rw [hl] at k
        refine iteF ⟨Nat.zero_le _, fun p hp => ⟨(by show 3 ≤ sizeLine; decide), fun t2 ht2 => ?_⟩⟩
        exact k _ _ (e1.trans ((Same.upd hp).trans (Same.upd ht2))) ⟨t2, p, rfl, upd_same, (Same.upd ht2) _ _ upd_same⟩
      | some r =>
        rw [hl] at k hwl
        obtain ⟨n, rfl, hn0, hnr⟩ := hwl
        refine iteT ⟨_, rfl, t, _, _, _, rfl, rfl, SqT.of (e1 _ _ ht), rfl, m, _, _, _, rfl, rfl, SqT.of (e1 _ _ hm), rfl, _, _, rfl, rfl, ?_⟩
        refine ⟨(by show 1 ≤ sizeLine; decide), fun p hp => ⟨(by show 3 ≤ sizeLine; decide), fun t2 ht2 => ?_⟩⟩
        exact k _ _ (e1.trans ((Same.upd hp).trans (Same.upd ht2))) ⟨t2, p, rfl, upd_same, (Same.upd ht2) _ _ upd_same⟩
theorem ok_taken {T0 : List (Addr × Str)} (F : Fun Z.K "taken" "Book.taken" s_Book_taken f fd) (T : ShT Z C) (B : BkPr Z C CB) (M : PrM Z C CP) (S : ShS Z C) (c_plan_of : CalM Z CX0 4 CB "plan_of" ["self", "state"] [] (spPlanOf C CB)) (c_behind_try : CalM Z CX0 8 CB "behind_try" ["self", "prices", "state", "kind"] [] (spTry T0 C CB CP))
    (c_behind_look : CalM Z CX0 7 CB "behind_look" ["self", "prices", "state", "kind"] [] (spLook C CB CP)) (c_behind_general : CalM Z CX0 7 CB "behind_general" ["self", "prices", "state", "kind"] [] (spBGen C CB CP)) : Z.ok CX0 9 f fd ["self", "prices", "state", "kind"] (spTaken T0 C CB CP) := by
  refine F.ok sc_Book_taken (fun vs H Q E h => ?_) (fun cdv A outer s H vs Q E hr h => ?_)
  · obtain ⟨x, pz, sv, b, P, s, w, rfl, _⟩ := h
    rfl
  · obtain ⟨x, pz, sv, b, P, s, w, rfl, hx, hP, g, hs, hwf, hwk, hT, k⟩ := h
    refine ⟨_, (pss_cons (ps_if (pt_cmpR op_eq (pe_ix ix_tup (pv 2) pe_int (fun _ _ => rfl)) pe_str (nomark _))
      (pss_one (ps_ret (pe_tup (pa_cons pe_str (pa_cons (pe_calM M.own (hr.mono (by decide)) pass0 (pv 1) (pa_cons (pv 3) pa_nil)) (pa_cons (pe_calM c_behind_try (hr.mono (by decide)) pass0 (pv 0) (pa_cons (pv 1) (pa_cons (pv 2) (pa_cons (pv 3) pa_nil)))) pa_nil))))))
      pss_nil)
      (pss_cons (ps_if (pt_cmpR op_eq (pe_calM c_plan_of (hr.mono (by decide)) pass0 (pv 0) (pa_cons (pv 2) pa_nil)) pe_str (nomark _))
      (pss_one (ps_ret (pe_tup (pa_cons pe_str (pa_cons (pe_calM M.own (hr.mono (by decide)) pass0 (pv 1) (pa_cons (pv 3) pa_nil)) (pa_cons (pe_calM c_behind_look (hr.mono (by decide)) pass0 (pv 0) (pa_cons (pv 1) (pa_cons (pv 2) (pa_cons (pv 3) pa_nil)))) pa_nil))))))
      pss_nil)
      (pss_cons (ps_set (i := 4) sc_Book_taken.nd rfl (Or.inl rfl) (pe_ifExp (pt_val (pe_ix ix_tup (pv 2) pe_int (fun _ _ => rfl))) (pe_calM M.gen (hr.mono (by decide)) pass0 (pv 1) (pa_cons (pv 3) pa_nil)) (pe_op (op_num (op := .Add) S.add S.na (hr.mono (by decide)) pass0) (pe_calM M.gen (hr.mono (by decide)) pass0 (pv 1) (pa_cons (pv 3) pa_nil)) (pe_calP M.gmake (hr.mono (by decide)) pass0 (pv 1) (by rfl)))))
      (pss_one (ps_ret (pe_tup (pa_cons pe_str (pa_cons (pv 4) (pa_cons (pe_calM c_behind_general (hr.mono (by decide)) pass0 (pv 0) (pa_cons (pv 1) (pa_cons (pv 2) (pa_cons (pv 3) pa_nil)))) pa_nil))))))))), ?_⟩
    have hk := kind_in g.ks hwk
    obtain ⟨⟨gq1, _⟩, ⟨gq2, _⟩⟩ := g.ks.q _ hk
    have hs' := hs
    obtain ⟨t, m, rfl, ht, hm⟩ := hs
    refine ⟨_, rfl, t, _, _, _, rfl, rfl, SqT.of ht, rfl, rfl, _, rfl, ?_⟩
    cases s with
    | own kp mem =>
      refine iteT ?_
      refine ⟨_, rfl, pr_meth hP (by decide) (by decide) (by decide) ⟨_, rfl, pz, w, lkP P w, P, rfl, hP, g, hk, fun v H1 e1 hv => ?_⟩⟩
      have hx1 := hx.mono e1
      refine ⟨_, rfl, bk_meth hx1 (by decide) ⟨_, rfl, _, rfl, _, rfl, x, pz, _, b, P, kp, mem, w, rfl, hx1, hP.mono e1, g, hs'.mono e1, hwf, hwk, hT.ext e1, fun st H2 g2 hst => ?_⟩⟩
      refine ⟨(by show 3 ≤ sizeLine; decide), fun t2 ht2 => ?_⟩
      have e3 := Same.upd (o := .tup [.str "own", v, st]) ht2
      exact k _ _ ((Gr.of e1).trans (g2.trans (.of e3))) ⟨t2, v, st, rfl, upd_same, (hv.gr g2).mono e3, hst.mono e3⟩
    | gen kp c =>
      refine iteF ?_
      refine ⟨_, rfl, bk_meth hx (by decide) ⟨_, rfl, x, b, _, _, P, rfl, hx, hs', hwf, ?_⟩⟩
      have enx : b.next P (.gen kp c) w = if b.isOwn (.gen kp c) then b.behindLook P kp w else b.behindGen P c w := rfl
      have eco : b.cost P (.gen kp c) w = if b.isOwn (.gen kp c) then gAdd P.md (lkP P w).1 else if kp then (lkP P w).2 else gAdd (lkP P w).2 P.gn := rfl
      cases ho : b.isOwn (.gen kp c) with
      | true =>
        rw [ho, if_pos rfl] at enx eco
        refine ⟨rfl, _, rfl, iteT ?_⟩
        refine ⟨_, rfl, pr_meth hP (by decide) (by decide) (by decide) ⟨_, rfl, pz, w, lkP P w, P, rfl, hP, g, hk, fun v H1 e1 hv => ?_⟩⟩
        have hx1 := hx.mono e1
        refine ⟨_, rfl, bk_meth hx1 (by decide) ⟨_, rfl, _, rfl, _, rfl, x, pz, _, b, P, kp, c, w, rfl, hx1, hP.mono e1, g, hs'.mono e1, hwk, fun st H2 e2 hst => ?_⟩⟩
        refine ⟨(by show 3 ≤ sizeLine; decide), fun t2 ht2 => ?_⟩
        have e3 := Same.upd (o := .tup [.str "own", v, st]) ht2
        exact k _ _ (.of (e1.trans (e2.trans e3))) ⟨t2, v, st, rfl, by rw [ho]; exact upd_same, by rw [eco]; exact (hv.mono e2).mono e3, by rw [enx]; exact hst.mono e3⟩
      | false =>
        rw [ho, if_neg (by decide)] at enx eco
        refine ⟨rfl, _, rfl, iteF ?_⟩
        have fin : ∀ v H1, Same H H1 → Sh C H1 v (b.cost P (.gen kp c) w) → ∀ st H2, Same H1 H2 → StV H2 st (b.behindGen P c w) → ∀ t2, H2 t2 = none → Q (.ref t2) (upd H2 t2 (.tup [.str "general", v, st])) := fun v H1 e1 hv st H2 e2 hst t2 ht2 => by
          have e3 := Same.upd (o := .tup [.str "general", v, st]) ht2
          exact k _ _ (.of (e1.trans (e2.trans e3))) ⟨t2, v, st, rfl, by rw [ho]; exact upd_same, (hv.mono e2).mono e3, by rw [enx]; exact hst.mono e3⟩
        refine ⟨_, rfl, t, _, _, _, rfl, rfl, SqT.of ht, rfl, _, rfl, ?_⟩
        cases kp with
        | true =>
          refine iteT ⟨_, rfl, pr_meth hP (by decide) (by decide) (by decide) ⟨_, rfl, pz, w, lkP P w, P, rfl, hP, g, hk, fun v H1 e1 hv => ?_⟩⟩
          have hx1 := hx.mono e1
          refine ⟨_, rfl, _, rfl, bk_meth hx1 (by decide) ⟨_, rfl, _, rfl, _, rfl, x, pz, _, b, P, true, c, w, rfl, hx1, hP.mono e1, g, hs'.mono e1, hwf, hwk, fun st H2 e2 hst => ?_⟩⟩
          exact ⟨(by show 3 ≤ sizeLine; decide), fun t2 ht2 => fin v H1 e1 (by rw [eco]; exact hv) st H2 e2 hst t2 ht2⟩
        | false =>
          refine iteF ⟨_, rfl, pr_meth hP (by decide) (by decide) (by decide) ⟨_, rfl, pz, w, lkP P w, P, rfl, hP, g, hk, fun v H1 e1 hv => ?_⟩⟩
          refine ⟨_, rfl, pr_prop (hP.mono e1) fun vm hvm => ?_⟩
          refine ⟨hv.ins, .inl hvm.ins, v, vm, _, P.gn, rfl, hv, .inl hvm, gq2.z.up (by decide), g.gn.z.up (by decide), fun v2 H2 e2 hv2 => ?_⟩
          have e12 := e1.trans e2
          have hx1 := hx.mono e12
          refine ⟨_, rfl, _, rfl, bk_meth hx1 (by decide) ⟨_, rfl, _, rfl, _, rfl, x, pz, _, b, P, false, c, w, rfl, hx1, hP.mono e12, g, hs'.mono e12, hwf, hwk, fun st H3 e3 hst => ?_⟩⟩
          exact ⟨(by show 3 ≤ sizeLine; decide), fun t2 ht2 => fin v2 H2 e12 (by rw [eco]; exact hv2) st H3 e3 hst t2 ht2⟩
end
end Ps

/-! The repr of a short list of digits. -/
namespace Ps
open PySem PySem.Spec PyProof.Rows PySem.W L2

theorem dig_short : ∀ a : Fin 10, (PyData.shown (.int ((a.val : Nat) : Int))).length ≤ 8 := by decide +kernel
theorem dig_sh {i : Int} (h0 : 0 ≤ i) (h1 : i < 10) : (PyData.shown (.int i)).length ≤ 8 := by
  have := dig_short ⟨i.toNat, by omega⟩
  have e : (((⟨i.toNat, by omega⟩ : Fin 10).val : Nat) : Int) = i := by show ((i.toNat : Nat) : Int) = i; omega
  rw [e] at this
  exact this
theorem rp_ints {ns : List Int} (h : ∀ n ∈ ns, 0 ≤ n ∧ n < 10) (hl : ns.length ≤ 60) : Rp (.list (ns.map PyData.int)) := by
  have s1 : PyData.showable (.list (ns.map PyData.int)) = true := by
    show PyData.showableAll (ns.map PyData.int) = true
    clear hl
    induction ns with
    | nil => rfl
    | cons n r ih =>
      show (PyData.showable (.int n) && PyData.showableAll (r.map PyData.int)) = true
      rw [ih fun m hm => h m (List.mem_cons_of_mem _ hm)]
      have hn := h n (List.mem_cons_self ..)
      have : n.natAbs < 10 := by omega
      rw [show PyData.showable (.int n) = decide (n.natAbs.log2 < 1920) from rfl, decide_eq_true (Nat.lt_of_le_of_lt (Nat.log2_le_self _) (by omega))]
      rfl
  have s2 : PyData.hasDict (.list (ns.map PyData.int)) = false := by
    show PyData.hasDictAll (ns.map PyData.int) = false
    clear hl h s1
    induction ns with
    | nil => rfl
    | cons n r ih =>
      show (PyData.hasDict (.int n) || PyData.hasDictAll (r.map PyData.int)) = false
      rw [ih]
      rfl
  have s3 : PyData.depth (.list (ns.map PyData.int)) ≤ 50 := by
    show PyData.depthAll (ns.map PyData.int) + 1 ≤ 50
    rw [PyProof.Rows.depthAll_ints]
    decide
  have s4 : PyData.leavesShort 8 (.list (ns.map PyData.int)) = true := by
    show PyData.leavesShortAll 8 (ns.map PyData.int) = true
    clear hl s1 s2 s3
    induction ns with
    | nil => rfl
    | cons n r ih =>
      show (PyData.leavesShort 8 (.int n) && PyData.leavesShortAll 8 (r.map PyData.int)) = true
      rw [ih fun m hm => h m (List.mem_cons_of_mem _ hm)]
      have hn := h n (List.mem_cons_self ..)
      rw [show PyData.leavesShort 8 (.int n) = decide ((PyData.shown (.int n)).length ≤ 8) from rfl, decide_eq_true (dig_sh hn.1 hn.2)]
      rfl
  have s5 : PyData.bulk (.list (ns.map PyData.int)) ≤ 2 * ns.length + 2 := by
    show PyData.bulkAll (ns.map PyData.int) ≤ _
    clear hl h s1 s2 s3 s4
    induction ns with
    | nil => decide
    | cons n r ih =>
      show 0 + 1 + PyData.bulkAll (r.map PyData.int) ≤ _
      rw [List.length_cons]
      omega
  have s6 := PyData.shown_le_bulk 8 (by decide) _ s4
  exact ⟨s1, s2, s3, by omega⟩
theorem DpAll.strs {K : Frag} {H : Hp} : ∀ zs : List Str, DpAll K H (zs.map V.str) (zs.map PyData.str)
  | [] => .nil
  | z :: r => .cons (.str z) (DpAll.strs r)
theorem shaped_strs {zs : List Str} (h : ∀ z ∈ zs, PyData.strOk z = true) : SeqAt.shaped (.list (zs.map PyData.str)) = true := by
  have h1 : PyData.canLayAll0 (zs.map PyData.str) = true := by
    induction zs with
    | nil => rfl
    | cons z r ih =>
      show (PyData.canLay0 (.str z) && PyData.canLayAll0 (r.map PyData.str)) = true
      rw [ih fun y hy => h y (List.mem_cons_of_mem _ hy)]
      show (PyData.strOk z && true) = true
      rw [h z (List.mem_cons_self ..)]
      rfl
  have h2 : PyData.depthAll (zs.map PyData.str) = 0 := by
    induction zs with
    | nil => rfl
    | cons z r ih =>
      show max (PyData.depth (.str z)) (PyData.depthAll (r.map PyData.str)) = 0
      have h1' : (PyData.canLay0 (.str z) && PyData.canLayAll0 (r.map PyData.str)) = true := h1
      rw [ih (fun y hy => h y (List.mem_cons_of_mem _ hy)) ((Bool.and_eq_true _ _).mp h1').2]
      rfl
  show (PyData.canLayAll0 (zs.map PyData.str) && decide (PyData.depthAll (zs.map PyData.str) + 1 ≤ 64)) = true
  rw [h1, h2]
  rfl
theorem eqv_same {d : PyData} (h : SeqAt.shaped d = true) : PyData.eqv d d = true := SeqAt.eqv_refl d (SeqAt.canLay_of_shaped h)
end Ps

/-! States of books: right states; plan and step, where all is right. -/
namespace Ps
open PySem PySem.Spec PyProof.Rows PySem.W L2 LamX

def spIsMem0 (T : List (Addr × Str)) (C CB CP : Addr) : Sp := fun vs H Q _ => ∃ x pz m b P kp mem, vs = [x, pz, .ref m] ∧ BkAt C CB H x b ∧ PrAtS C CP H pz P ∧ PrG' P ∧ H m = some (.tup (mem.map V.str)) ∧ b.wf P (.own kp mem) ∧ Tabs T H ∧ ∀ H', Grow T H H' → Q (.bl true) H'
def spChk0 (C CP : Addr) : Sp := fun vs H Q _ => ∃ x P, vs = [x] ∧ PrAtS C CP H x P ∧ Q .non H
def spIsSt0 (T : List (Addr × Str)) (C CB CP : Addr) (r : V) : Sp := fun vs H Q _ => ∃ x pz sv b P s, vs = [x, pz, sv] ∧ BkAt C CB H x b ∧ PrAtS C CP H pz P ∧ PrG' P ∧ StV H sv s ∧ b.wf P s ∧ Tabs T H ∧ ∀ H', Grow T H H' → Q r H'
def spPlan0 (T : List (Addr × Str)) (C CB CP : Addr) : Sp := fun vs H Q _ => ∃ x pz sv b P s, vs = [x, pz, sv] ∧ BkAt C CB H x b ∧ PrAtS C CP H pz P ∧ PrG' P ∧ StV H sv s ∧ b.wf P s ∧ Tabs T H ∧ ∀ H', Grow T H H' → Q (plV (b.isOwn s)) H'
theorem wf_len {b : Bk} {P : PrS} {kp : Bool} {mem : List Str} (hb : BkOk b) (hw : b.wf P (.own kp mem)) : mem.length ≤ 6 := by
  obtain ⟨_, _, h⟩ := hw
  cases htr : b.tries with
  | none => simp only [htr] at h; rw [h]; decide
  | some n =>
    have := (hb.tr n htr).2
    simp only [htr] at h
    cases hs : b.sliding with
    | true => simp only [hs] at h; have : (mem.length : Int) ≤ n := h; omega
    | false => simp only [hs] at h; have := h.1; omega
section
variable {Z : Cz} {f C CB CP : Addr} {fd : FuncData}
theorem ok_chk0 (F : Fun Z.K "check_prices" "check_prices" s_check_prices f fd) (W : WdT Z) (D : PrC Z CP) : Z.ok CX0 1 f fd ["prices"] (spChk0 C CP) := by
  refine F.ok sc_check_prices (fun vs H Q E h => ?_) (fun cdv A outer s H vs Q E hr h => ?_)
  · obtain ⟨x, P, rfl, _⟩ := h
    rfl
  · obtain ⟨x, P, rfl, hx, k⟩ := h
    refine ⟨_, (pss_one (ps_if (pt_not (pt_val (pe_callB call_isi (by rfl) W.isi (by decide +kernel) (pa_cons (pv 0) (pa_cons (pe_glob (v := .ref CP) rfl D.mg rfl) pa_nil)))))
      (pss_one ps_never)
      pss_nil)), ?_⟩
    obtain ⟨xa, dx, _, _, _, _, rfl, hx, _⟩ := hx
    exact ⟨_, rfl, _, _, _, _, true, rfl, .own CP, .base (.ins hx D.cl D.ha D.hn D.htk D.hm), D.kCC, _, rfl, iteF k⟩
theorem ok_isMem0 {T0 : List (Addr × Str)} (F : Fun Z.K "is_memory" "Book.is_memory" s_Book_is_memory f fd) (W : WdT Z) (B : BkPr Z C CB) (ch : CalS Z CX0 2 CP "__contains__" ["self", "word"] (spPrHas Z.K C CP)) (c_ascending : Cal Z CX0 2 "ascending" ["words"] [] (spAsc Z.K T0)) :
    Z.ok CX0 4 f fd ["self", "prices", "memory"] (spIsMem0 T0 C CB CP) := by
  refine F.ok sc_Book_is_memory (fun vs H Q E h => ?_) (fun cdv A outer s H vs Q E hr h => ?_)
  · obtain ⟨x, pz, m, b, P, kp, mem, rfl, _⟩ := h
    rfl
  · obtain ⟨x, pz, m, b, P, kp, mem, rfl, hx, hP, g, hm, hw, hT, k⟩ := h
    refine ⟨_, (pss_cons (ps_if (pt_not (pt_val (pe_callB (cr_all rfl) (by rfl) W.all (by decide +kernel) (pa_cons (pe_lc (own := [("word", 3)]) (g := gName 3) (tt := tYes) (by rfl) sc_Book_is_memory.nd (pi_tup (pv 2)) (blkOk_by (own := [("word", 3)]) (N := ["self", "prices", "memory", "word"]) (sc := defScope s_Book_is_memory) (by decide +kernel)) (fun _ _ _ _ _ => (pg_name (i := 3) sc_Book_is_memory.nd rfl (Or.inl rfl))) (fun _ _ _ _ _ => pts_nil) (fun _ _ _ _ _ => (pe_cmpR (op_inO ch (hr.mono (by decide))) (pv 3) (pv 1) (by rfl)))) pa_nil))))
      (pss_one (ps_ret pe_bl))
      pss_nil)
      (pss_cons (ps_if (pt_cmpR op_isN (pe_calP B.tries (hr.mono (by decide)) pass0 (pv 0) (by rfl)) pe_non (nomark _))
      (pss_one (ps_ret (pe_cmpR (op_eqD hr.units) (pv 2) (pe_tup pa_nil) (nomark _))))
      pss_nil)
      (pss_cons (ps_if (pt_val (pe_calP B.sliding (hr.mono (by decide)) pass0 (pv 0) (by rfl)))
      (pss_one (ps_ret (pe_cmpR op_le (pe_callB call_len_seq (by rfl) W.len PySem.boot_len (pa_cons (pv 2) pa_nil)) (pe_calP B.tries (hr.mono (by decide)) pass0 (pv 0) (by rfl)) (nomark _))))
      pss_nil)
      (pss_one (ps_ret (pe_and (pe_cmpR op_lt (pe_callB call_len_seq (by rfl) W.len PySem.boot_len (pa_cons (pv 2) pa_nil)) (pe_calP B.tries (hr.mono (by decide)) pass0 (pv 0) (by rfl)) (nomark _)) (pe_one (pe_cmpR (op_eqD hr.units) (pe_callTy call_list_of (by rfl) W.list (by decide +kernel) (pa_cons (pv 2) pa_nil)) (pe_cal c_ascending (hr.mono (by decide)) (by rfl) pass0 (pa_cons (pv 2) pa_nil)) (nomark _))))))))), ?_⟩
    have hb := hx.ok
    have l6 := wf_len hb hw
    refine ⟨_, rfl, m, rfl, ⟨_, SqT.of hm⟩, fun D hD => ?_⟩
    refine lcF hr_same (walk_tup (K := Z.K) (a := m) (xs := mem.map V.str)) yat (ys := (mem.map fun _ => true).map V.bl) (by simp) (by rw [List.length_map]; omega) hD trivial (fun H2 e2 => SqT.of (e2 _ _ hm)) ?_ ?_
    · rintro j y z H2 Qe hy hz e2 kk
      rw [List.getElem?_map] at hy
      cases hmj : mem[j]? with
      | none => rw [hmj] at hy; cases hy
      | some w =>
        rw [hmj] at hy
        rw [List.getElem?_map, List.getElem?_map, hmj] at hz
        cases hy
        cases hz
        have hP2 := hP.mono e2
        exact ⟨_, rfl, _, rfl, pr_ins hP2, _, _, P, rfl, hP2, g.ks, .inl ⟨w, lkP P w, rfl, kind_in g.ks (hw.2.1 w (List.mem_of_getElem? hmj)), fun H3 e3 => ⟨true, rfl, kk H3 e3⟩⟩⟩
    rintro H2 e2 hl2
    refine ⟨D, _, rfl, SqL.of hl2, ?_⟩
    have ea : ((mem.map fun _ => true).all id) = true := by simp
    rw [ea]
    refine ⟨_, rfl, iteF ?_⟩
    have hx2 := hx.mono e2
    have hm2 := e2 _ _ hm
    refine ⟨_, rfl, bk_prop hx2 fun vt hvt => ?_⟩
    subst hvt
    refine ⟨rfl, _, rfl, ?_⟩
    obtain ⟨h0, hin, h⟩ := hw
    cases htr : b.tries with
    | none =>
      simp only [htr] at h
      subst h
      refine iteT ⟨_, rfl, Nat.zero_le _, fun p hp => ?_⟩
      have e3 := Same.upd (o := .tup []) hp
      exact ⟨.tuple [], .tuple [], .tup (SqT.of (e3 _ _ hm2)) .nil, .tup (SqT.of upd_same) .nil, rfl, rfl, k _ (.of (e2.trans e3))⟩
    | some n =>
      simp only [htr] at h
      refine iteF ⟨_, rfl, bk_prop hx2 fun vs hvs => ?_⟩
      subst hvs
      refine ⟨_, rfl, ?_⟩
      cases hs : b.sliding with
      | true =>
        simp only [hs] at h
        refine iteT ⟨_, rfl, m, _, rfl, .inr (SqT.of hm2), _, rfl, bk_prop hx2 fun vt hvt => ?_⟩
        subst hvt
        rw [htr, List.length_map]
        refine ⟨_, _, rfl, rfl, ?_⟩
        have := k _ (.of e2)
        rw [← decide_eq_true (show (mem.length : Int) ≤ n from h)] at this
        exact this
      | false =>
        simp only [hs] at h
        refine iteF ⟨_, rfl, m, _, rfl, .inr (SqT.of hm2), _, rfl, bk_prop hx2 fun vt hvt => ?_⟩
        subst hvt
        rw [htr, List.length_map]
        refine ⟨_, _, rfl, rfl, _, rfl, ?_⟩
        rw [decide_eq_true (show (mem.length : Int) < n from h.1)]
        refine iteT ⟨_, rfl, m, _, rfl, .inr (SqT.of hm2), fun l1 hl1 => ?_⟩
        have e3 := Same.upd (o := .lst (mem.map V.str)) hl1
        have u1 : (upd H2 l1 (.lst (mem.map V.str))) l1 = some (.lst (mem.map V.str)) := upd_same
        generalize (upd H2 l1 (.lst (mem.map V.str))) = H3 at e3 u1 ⊢
        have e23 := e2.trans e3
        refine ⟨_, rfl, m, _, rfl, hT.ext e23, .inr (.inl (SqT.of (e23 _ _ hm))), fun y hy => ?_, fun l2 H4 g4 hl2 hl24 => ?_⟩
        · obtain ⟨z, _, rfl⟩ := List.mem_map.mp hy
          exact ktx_w
        · rw [srt_words, h.2] at hl24
          have d := DpAll.strs (K := Z.K) (H := H4) mem
          have sh := shaped_strs (zs := mem) fun z hz => isW_strOk (g.ks.w _ (kind_in g.ks (hin z hz)))
          refine ⟨_, _, .lst (SqL.of (g4.at u1)) d, .lst (SqL.of hl24) d, sh, sh, ?_⟩
          rw [SeqAt.eqv_refl _ (SeqAt.canLay_of_shaped sh)]
          exact k H4 ((Gr.of e23).trans g4)
theorem ok_isSt0 {T0 : List (Addr × Str)} (F : Fun Z.K "is_state" "Book.is_state" s_Book_is_state f fd) (W : WdT Z) (tp : Z.mg "tuple" = none) (B : BkPr Z C CB) (c_check_prices : Cal Z CX0 1 "check_prices" ["prices"] [] (spChk0 C CP)) (c_is_integer : Cal Z CX0 1 "is_integer" ["value"] [] (spIsInt Z.K))
    (c_looks : CLooks Z C CB) (c_is_memory : CalM Z CX0 4 CB "is_memory" ["self", "prices", "memory"] [] (spIsMem0 T0 C CB CP)) : Z.ok CX0 5 f fd ["self", "prices", "value"] (spIsSt0 T0 C CB CP (.bl true)) := by
  refine F.ok sc_Book_is_state (fun vs H Q E h => ?_) (fun cdv A outer s H vs Q E hr h => ?_)
  · obtain ⟨x, pz, sv, b, P, s, rfl, _⟩ := h
    rfl
  · obtain ⟨x, pz, sv, b, P, s, rfl, hx, hP, g, hs, hw, hT, k⟩ := h
    refine ⟨_, (pss_cons (ps_expr (pe_cal c_check_prices (hr.mono (by decide)) (by rfl) pass0 (pa_cons (pv 1) pa_nil)))
      (pss_cons (ps_if (PW.pt (pw_or (pt_not (pt_val (pe_callB call_isi (by rfl) W.isi (by decide +kernel) (pa_cons (pv 2) (pa_cons (pe_ty "tuple" (by rfl) tp (by decide +kernel)) pa_nil))))) (pw_or (pt_cmpR op_ne (pe_callB call_len_seq (by rfl) W.len PySem.boot_len (pa_cons (pv 2) pa_nil)) pe_int (nomark _)) (pw_or1 (pt_not (pt_val (pe_callB call_isi (by rfl) W.isi (by decide +kernel) (pa_cons (pe_ix ix_tup (pv 2) pe_int (fun _ _ => rfl)) (pa_cons (pe_ty "str" (by rfl) W.str (by decide +kernel)) pa_nil)))))))))
      (pss_one (ps_ret pe_bl))
      pss_nil)
      (pss_cons (ps_asg (pv 2) (pg_tup (by rfl) (pgs_cons (pg_name (i := 3) sc_Book_is_state.nd rfl (Or.inl rfl)) (pgs_cons (pg_name (i := 4) sc_Book_is_state.nd rfl (Or.inl rfl)) (pgs_cons (pg_name (i := 5) sc_Book_is_state.nd rfl (Or.inl rfl)) pgs_nil)))))
      (pss_cons (ps_if (PW.pt (pw_or (pt_not (pt_val (pe_callB call_isi (by rfl) W.isi (by decide +kernel) (pa_cons (pv 4) (pa_cons (pe_ty "bool" (by rfl) W.bool (by decide +kernel)) pa_nil))))) (pw_or1 (pt_not (pt_val (pe_callB call_isi (by rfl) W.isi (by decide +kernel) (pa_cons (pv 5) (pa_cons (pe_ty "tuple" (by rfl) tp (by decide +kernel)) pa_nil))))))))
      (pss_one (ps_ret pe_bl))
      pss_nil)
      (pss_cons (ps_if (pt_cmpR op_eq (pv 3) pe_str (nomark _))
      (pss_one (ps_ret (pe_and (pe_cmpR op_ne (pe_calP B.tries (hr.mono (by decide)) pass0 (pv 0) (by rfl)) pe_int (nomark _)) (pe_one (pe_calM c_is_memory (hr.mono (by decide)) pass0 (pv 0) (pa_cons (pv 1) (pa_cons (pv 5) pa_nil)))))))
      pss_nil)
      (pss_cons (ps_if (PW.pt (pw_or (pt_cmpR op_ne (pv 3) pe_str (nomark _)) (pw_or1 (pt_cmpR op_isN (pe_calP B.tries (hr.mono (by decide)) pass0 (pv 0) (by rfl)) pe_non (nomark _)))))
      (pss_one (ps_ret pe_bl))
      pss_nil)
      (pss_cons (ps_if (pt_cmpR op_isN (pe_calM0 c_looks (hr.mono (by decide)) pass0 (pv 0)) pe_non (nomark _))
      (pss_one (ps_ret (pe_cmpR (op_eqD hr.units) (pv 5) (pe_tup pa_nil) (nomark _))))
      pss_nil)
      (pss_one (ps_ret (pe_and (pe_cmpR op_eq (pe_callB call_len_seq (by rfl) W.len PySem.boot_len (pa_cons (pv 5) pa_nil)) pe_int (nomark _)) (pe_and (pe_cal c_is_integer (hr.mono (by decide)) (by rfl) pass0 (pa_cons (pe_ix ix_tup (pv 5) pe_int (fun _ _ => rfl)) pa_nil)) (pe_one (pe_chain op_le op_lt pe_int (pe_ix ix_tup (pv 5) pe_int (fun _ _ => rfl)) (pe_calM0 c_looks (hr.mono (by decide)) pass0 (pv 0))))))))))))))), ?_⟩
    have hb := hx.ok
    obtain ⟨t, m, rfl, ht, hm⟩ := hs
    refine ⟨_, rfl, pz, P, rfl, hP, ?_⟩
    refine ⟨_, rfl, _, _, _, _, true, rfl, .ty "tuple", .base (.tup ht), kit_ty (by decide +kernel), _, rfl, iteF ?_⟩
    refine ⟨_, rfl, t, _, rfl, .inr (SqT.of ht), rfl, _, rfl, iteNS rfl ?_⟩
    refine ⟨_, rfl, t, _, _, _, rfl, rfl, SqT.of ht, rfl, _, _, _, _, true, rfl, .ty "str", .base (.str _), kit_ty (by decide +kernel), _, rfl, iteF ?_⟩
    refine ⟨_, rfl, t, _, rfl, SqT.of ht, rfl, _, _, rfl, _, _, rfl, _, _, rfl, rfl, ?_⟩
    refine ⟨_, rfl, _, _, _, _, true, rfl, .ty "bool", .base (.bl _), kit_ty (by decide +kernel), _, rfl, iteF ?_⟩
    refine ⟨_, rfl, _, _, _, _, true, rfl, .ty "tuple", .base (.tup hm), kit_ty (by decide +kernel), _, rfl, iteF ?_⟩
    refine ⟨_, rfl, rfl, _, rfl, ?_⟩
    cases s with
    | own kp mem =>
      refine iteT ⟨_, rfl, bk_prop hx fun vt hvt => ?_⟩
      subst hvt
      have h0 := hw.1
      refine ⟨?_, _, rfl, ?_⟩
      · cases b.tries <;> rfl
      rw [trV_zero, decide_eq_false h0]
      exact iteT ⟨_, rfl, bk_meth hx (by decide) ⟨_, rfl, _, rfl, x, pz, m, b, P, kp, mem, rfl, hx, hP, g, hm, hw, hT, k⟩⟩
    | gen kp c =>
      refine iteF ⟨_, rfl, rfl, _, rfl, iteF ?_⟩
      obtain ⟨hn, hl⟩ := hw
      refine ⟨_, rfl, bk_prop hx fun vt hvt => ?_⟩
      subst hvt
      refine ⟨rfl, _, rfl, ?_⟩
      cases htr : b.tries with
      | none => exact absurd htr hn
      | some n =>
        refine iteF ⟨_, rfl, bk_meth hx (by decide) ⟨x, b, rfl, hx, rfl, _, rfl, ?_⟩⟩
        cases hlk : b.looks with
        | none =>
          simp only [hlk] at hl
          subst hl
          refine iteT ⟨_, rfl, Nat.zero_le _, fun p hp => ?_⟩
          have e3 := Same.upd (o := .tup []) hp
          exact ⟨.tuple [], .tuple [], .tup (SqT.of (e3 _ _ hm)) .nil, .tup (SqT.of upd_same) .nil, rfl, rfl, k _ (.of e3)⟩
        | some r =>
          simp only [hlk] at hl
          obtain ⟨i, rfl, hi0, hir⟩ := hl
          refine iteF ⟨_, rfl, m, _, rfl, .inr (SqT.of hm), rfl, _, rfl, iteT ?_⟩
          refine ⟨_, rfl, m, _, _, _, rfl, rfl, SqT.of hm, rfl, _, _, rfl, .base (.int _), .inl ⟨rfl, _, rfl, iteT ?_⟩⟩
          refine ⟨_, rfl, m, _, _, _, rfl, rfl, SqT.of hm, rfl, _, _, rfl, rfl, _, rfl, ?_⟩
          rw [decide_eq_true hi0]
          refine iteT ⟨_, rfl, bk_meth hx (by decide) ⟨x, b, rfl, hx, ?_⟩⟩
          rw [hlk]
          refine ⟨_, _, rfl, rfl, ?_⟩
          have := k _ (.refl H)
          rw [← decide_eq_true hir] at this
          exact this
theorem ok_ckSt0 {T0 : List (Addr × Str)} (F : Fun Z.K "check_state" "Book.check_state" s_Book_check_state f fd) (c_is_state : CalM Z CX0 5 CB "is_state" ["self", "prices", "value"] [] (spIsSt0 T0 C CB CP (.bl true))) : Z.ok CX0 6 f fd ["self", "prices", "state"] (spIsSt0 T0 C CB CP .non) := by
  refine F.ok sc_Book_check_state (fun vs H Q E h => ?_) (fun cdv A outer s H vs Q E hr h => ?_)
  · obtain ⟨x, pz, sv, b, P, s, rfl, _⟩ := h
    rfl
  · obtain ⟨x, pz, sv, b, P, s, rfl, hx, hP, g, hs, hw, hT, k⟩ := h
    refine ⟨_, (pss_one (ps_if (pt_not (pt_val (pe_calM c_is_state (hr.mono (by decide)) pass0 (pv 0) (pa_cons (pv 1) (pa_cons (pv 2) pa_nil)))))
      (pss_one ps_never)
      pss_nil)), ?_⟩
    exact ⟨_, rfl, bk_meth hx (by decide) ⟨_, rfl, _, rfl, x, pz, sv, b, P, s, rfl, hx, hP, g, hs, hw, hT, fun H1 g1 => ⟨_, rfl, iteF (k H1 g1)⟩⟩⟩
abbrev CCkSt0 (Z : Cz) (T0 : List (Addr × Str)) (C CB CP : Addr) : Prop := CalM Z CX0 6 CB "check_state" ["self", "prices", "state"] [] (spIsSt0 T0 C CB CP .non)
theorem ok_plan0 {T0 : List (Addr × Str)} (F : Fun Z.K "plan" "Book.plan" s_Book_plan f fd) (c_check_state : CCkSt0 Z T0 C CB CP) (c_plan_of : CalM Z CX0 4 CB "plan_of" ["self", "state"] [] (spPlanOf C CB)) : Z.ok CX0 7 f fd ["self", "prices", "state"] (spPlan0 T0 C CB CP) := by
  refine F.ok sc_Book_plan (fun vs H Q E h => ?_) (fun cdv A outer s H vs Q E hr h => ?_)
  · obtain ⟨x, pz, sv, b, P, s, rfl, _⟩ := h
    rfl
  · obtain ⟨x, pz, sv, b, P, s, rfl, hx, hP, g, hs, hw, hT, k⟩ := h
    refine ⟨_, (pss_cons (ps_expr (pe_calM c_check_state (hr.mono (by decide)) pass0 (pv 0) (pa_cons (pv 1) (pa_cons (pv 2) pa_nil))))
      (pss_one (ps_ret (pe_calM c_plan_of (hr.mono (by decide)) pass0 (pv 0) (pa_cons (pv 2) pa_nil))))), ?_⟩
    exact ⟨_, rfl, bk_meth hx (by decide) ⟨_, rfl, _, rfl, x, pz, sv, b, P, s, rfl, hx, hP, g, hs, hw, hT, fun H1 g1 => ⟨_, rfl, bk_meth (hx.gr g1) (by decide) ⟨_, rfl, x, b, sv, s, P, rfl, hx.gr g1, hs.gr g1, hw, k H1 g1⟩⟩⟩⟩
end
end Ps

/-! States of books: the rules keep states right. -/
namespace Ps
open PySem PySem.Spec PyProof.Rows PySem.W L2 LamX

theorem leW_eq (a b : Str) : leW a b = decide (a.cps.toList ≤ b.cps.toList) := by
  have h := congrFun (congrFun (dataLe_str (β := V) kTx) (.str a)) (.str b)
  exact h
theorem leW_trans (a b c : Str) (h1 : leW a b = true) (h2 : leW b c = true) : leW a c = true := by
  rw [leW_eq] at h1 h2 ⊢
  exact decide_eq_true (List.le_trans (of_decide_eq_true h1) (of_decide_eq_true h2))
theorem leW_total (a b : Str) : (leW a b || leW b a) = true := by
  rw [leW_eq, leW_eq, Bool.or_eq_true, decide_eq_true_eq, decide_eq_true_eq]
  exact List.le_total _ _
theorem srtW_sorted (ws : List Str) : (srtW ws).Pairwise fun a b => leW a b = true := List.pairwise_mergeSort leW_trans leW_total ws
theorem srtW_idem (ws : List Str) : srtW (srtW ws) = srtW ws := List.mergeSort_of_pairwise (srtW_sorted ws)
theorem begun_wf {b : Bk} {P : PrS} (hb : BkOk b) (k : Bool) : b.wf P (b.begun k) := by
  unfold Bk.begun
  by_cases h : b.tries = some 0
  · rw [if_pos h]
    refine ⟨by rw [h]; simp, ?_⟩
    cases hl : b.looks with
    | none => rfl
    | some r =>
      refine ⟨0, rfl, Int.le_refl 0, ?_⟩
      unfold Bk.looks at hl
      have := hb.af
      cases ha : b.after with
      | ever => rw [ha] at hl; cases hl
      | doubt q => rw [ha] at hl; cases hl
      | look i =>
        rw [ha] at hl this
        cases hl
        have h1 := this.1
        omega
  · rw [if_neg h]
    refine ⟨h, (fun w hw => by cases hw), ?_⟩
    cases ht : b.tries with
    | none => rfl
    | some n =>
      have h0 := (hb.tr n ht).1
      have h1 : n ≠ 0 := fun z => h (by rw [ht, z])
      show if b.sliding = true then ((([] : List Str).length : Nat) : Int) ≤ n else ((([] : List Str).length : Nat) : Int) < n ∧ srtW [] = []
      split
      · exact h0
      · exact ⟨by show (0 : Int) < n; omega, by unfold srtW; simp⟩
theorem genSt_wf {b : Bk} {P : PrS} (hb : BkOk b) (ht : b.tries ≠ none) (k : Bool) : b.wf P (b.genSt k) := by
  refine ⟨ht, ?_⟩
  cases hl : b.looks with
  | none => rfl
  | some r =>
    refine ⟨0, rfl, Int.le_refl 0, ?_⟩
    unfold Bk.looks at hl
    have := hb.af
    cases ha : b.after with
    | ever => rw [ha] at hl; cases hl
    | doubt q => rw [ha] at hl; cases hl
    | look i =>
      rw [ha] at hl this
      cases hl
      have h1 := this.1
      omega
theorem next_wf {b : Bk} {P : PrS} {s : BSt} {w : Str} (hb : BkOk b) (hw : b.wf P s) (hk : w ∈ P.ks.map (·.1)) : b.wf P (b.next P s w) := by
  cases s with
  | own kp mem =>
    show b.wf P (b.behindTry P kp mem w)
    unfold Bk.behindTry
    cases ht : b.tries with
    | none => exact hw
    | some n =>
      have hn0 : 0 < n := by
        have h0 := (hb.tr n ht).1
        have h1 : n ≠ 0 := fun z => hw.1 (by rw [ht, z])
        omega
      have ml := memo_len hw ht hn0 w
      have mi := memo_in (n := n) hw hk
      show b.wf P (if _ then b.genSt kp else if _ then .own kp [] else .own kp (b.memo n mem w))
      split
      · exact genSt_wf hb (by rw [ht]; simp) kp
      · split
        · have := begun_wf (P := P) hb kp
          unfold Bk.begun at this
          rw [if_neg hw.1] at this
          exact this
        · rename_i h2
          refine ⟨hw.1, mi, ?_⟩
          rw [ht]
          show if b.sliding = true then _ else _
          cases hs : b.sliding with
          | true => rw [if_pos rfl]; exact ml
          | false =>
            rw [hs] at h2
            simp only [Bool.not_false, Bool.and_true, decide_eq_true_eq] at h2
            rw [if_neg (by decide)]
            refine ⟨by omega, ?_⟩
            unfold Bk.memo
            rw [if_neg (by rw [hs]; decide)]
            exact srtW_idem _
  | gen kp c =>
    show b.wf P (if b.isOwn (.gen kp c) then b.behindLook P kp w else b.behindGen P c w)
    obtain ⟨hn, hl⟩ := hw
    split
    · unfold Bk.behindLook
      split
      · exact begun_wf hb _
      · exact genSt_wf hb hn _
    · rename_i h
      unfold Bk.behindGen
      split
      · exact begun_wf hb _
      · refine ⟨hn, ?_⟩
        cases hlk : b.looks with
        | none => rfl
        | some r =>
          simp only [hlk] at hl
          obtain ⟨i, rfl, h0, hr⟩ := hl
          have h' : ¬ (decide (some i = some (r - 1))) = true := by
            intro z
            apply h
            show (match b.looks with | none => false | some r => decide (some i = some (r - 1))) = true
            rw [hlk]
            exact z
          have h2 : i ≠ r - 1 := fun z => h' (by rw [z]; exact decide_eq_true rfl)
          exact ⟨i + 1, rfl, by omega, by omega⟩
end Ps

/-! Rows: their making. -/
namespace Ps
open PySem PySem.Spec PyProof.Rows PySem.W L2 LamX

/-- the data of rows -/
structure RwD where
  ks : List Str
  nx : List (List Int)
  fs : List Int
/-- the i-th is a list of these ints -/
def IsInts (H : Hp) (r : V) (ns : List Int) : Prop := ∃ l, r = V.ref l ∧ H l = some (.lst (ns.map V.int))
/-- the lists of rows -/
structure RwL (H : Hp) (a b c : Addr) (R : RwD) : Prop where
  ks : H a = some (.lst (R.ks.map V.str))
  nx : ∃ rs, H b = some (.lst rs) ∧ Al (IsInts H) rs R.nx
  fs : H c = some (.lst (R.fs.map V.int))
structure KsG (ks : List Str) : Prop where
  l1 : 1 ≤ ks.length
  l8 : ks.length ≤ 8
  w : ∀ z ∈ ks, isW z = true
/-- rows that are right -/
structure RwG (R : RwD) : Prop where
  k : KsG R.ks
  nl : R.nx.length = R.ks.length
  nx : ∀ ns ∈ R.nx, (∀ n ∈ ns, 0 ≤ n ∧ n < R.ks.length) ∧ ns.Nodup
  fx : ∀ n ∈ R.fs, 0 ≤ n ∧ n < R.ks.length
  fd : R.fs.Nodup
  f0 : R.fs ≠ []
  nz : ∀ ns ∈ R.nx, ns.length ≤ 1000
  fz : R.fs.length ≤ 1000
def rwF (a b c : Addr) : List (Str × V) := [("own_kinds", .ref a), ("own_nexts", .ref b), ("own_firsts", .ref c)]
def RwAt (CR : Addr) (H : Hp) (v : V) (R : RwD) : Prop := ∃ x dx a b c, v = .ref x ∧ H x = some (.ins CR dx (rwF a b c)) ∧ RwL H a b c R
def srtI (ns : List Int) : List Int := ns.mergeSort fun a b => decide (a ≤ b)
def RwD.srt (R : RwD) : RwD := ⟨R.ks, R.nx.map srtI, srtI R.fs⟩
/-- no kinds, no nexts, no firsts -/
inductive KBad (K : Frag) (H : Hp) : V → Prop
  | odd {v : V} {t : Value} (ty : TyX K H v t) (k : kitOne K t (.type "list") = some false) : KBad K H v
  | len {a : Addr} {xs : List V} (h : H a = some (.lst xs)) (hl : xs.length = 0 ∨ 8 < xs.length) : KBad K H (.ref a)
  | word {a : Addr} {xs : List V} {bs : List Bool} (h : H a = some (.lst xs)) (h1 : 1 ≤ xs.length) (h8 : xs.length ≤ 8) (al : Al (WdB K H) xs bs) (hb : bs.all id = false) : KBad K H (.ref a)
inductive NBad (K : Frag) (H : Hp) (m : Nat) : V → Prop
  | odd {v : V} {t : Value} (ty : TyX K H v t) (k : kitOne K t (.type "list") = some false) : NBad K H m v
  | len {a : Addr} {xs : List V} (h : H a = some (.lst xs)) (hl : xs.length ≠ m) : NBad K H m (.ref a)
  | row {a : Addr} {xs : List V} {bs : List Bool} (h : H a = some (.lst xs)) (hl : xs.length = m) (al : Al (NdsB K m H) xs bs) (hb : bs.all id = false) : NBad K H m (.ref a)
inductive FBad (K : Frag) (H : Hp) (m : Nat) : V → Prop
  | odd {v : V} (h : NdsB K m H v false) : FBad K H m v
  | nil {c : Addr} (h : H c = some (.lst [])) : FBad K H m (.ref c)
/-- what the arguments of Rows bring -/
def RwO (K : Frag) (H : Hp) (v1 v2 v3 : V) (o : Str ⊕ RwD) : Prop := (KBad K H v1 ∧ o = .inl "kinds") ∨ ∃ a ks, v1 = .ref a ∧ H a = some (.lst (ks.map V.str)) ∧ KsG ks ∧ ((NBad K H ks.length v2 ∧ o = .inl "nexts") ∨
  ∃ b xs bs, v2 = .ref b ∧ H b = some (.lst xs) ∧ xs.length = ks.length ∧ Al (NdsB K ks.length H) xs bs ∧ bs.all id = true ∧ ((FBad K H ks.length v3 ∧ o = .inl "firsts") ∨ ∃ c R, v3 = .ref c ∧ RwL H a b c R ∧ RwG R ∧ R.ks = ks ∧ o = .inr R))
/-- the lists of the made rows are new -/
structure RwN (H H' : Hp) (a b c : Addr) : Prop where
  ka : H a = none
  kb : H b = none
  kc : H c = none
  kr : ∀ rs l, H' b = some (.lst rs) → V.ref l ∈ rs → H l = none
def spRows (K : Frag) (T : List (Addr × Str)) (CR CB : Addr) : Sp := fun vs H Q E => ∃ x dx v1 v2 v3 o, vs = [.ref x, v1, v2, v3] ∧ H x = some (.ins CR dx []) ∧ Tabs T H ∧ RwO K H v1 v2 v3 o ∧
  match o with
  | .inl z => Rz CB "field" (.str z) H E
  | .inr R => ∀ H' a b c, Gr T (some x) H H' → H' x = some (.ins CR dx (rwF a b c)) → RwL H' a b c R.srt → RwN H H' a b c → Q .non H'
/-! ### the plain side -/
theorem le_digits : ∀ a b : Fin 10, leTx kTx (.int (a.val : Nat)) (.int (b.val : Nat)) = decide ((a.val : Int) ≤ (b.val : Int)) := by decide +kernel
theorem le_digit {i j : Int} (h0 : 0 ≤ i) (h1 : i < 10) (h2 : 0 ≤ j) (h3 : j < 10) : leTx kTx (.int i) (.int j) = decide (i ≤ j) := by
  have := le_digits ⟨i.toNat, by omega⟩ ⟨j.toNat, by omega⟩
  have e1 : ((i.toNat : Nat) : Int) = i := by omega
  have e2 : ((j.toNat : Nat) : Int) = j := by omega
  rw [show ((⟨i.toNat, by omega⟩ : Fin 10).val : Nat) = i.toNat from rfl, show ((⟨j.toNat, by omega⟩ : Fin 10).val : Nat) = j.toNat from rfl, e1, e2] at this
  exact this
theorem srt_ints {ns : List Int} (h : ∀ n ∈ ns, 0 ≤ n ∧ n < 10) : srt (ns.map V.int) = (srtI ns).map V.int := by
  unfold srt srtI
  rw [List.map_mergeSort (f := V.int) (s := leTx kTx) fun a ha b hb => (le_digit (h a ha).1 (h a ha).2 (h b hb).1 (h b hb).2).symm]
theorem srtI_perm (ns : List Int) : (srtI ns).Perm ns := List.mergeSort_perm _ _
theorem srtI_sorted (ns : List Int) : (srtI ns).Pairwise (· ≤ ·) := by
  have h := List.pairwise_mergeSort (le := fun a b : Int => decide (a ≤ b)) (fun a b c h1 h2 => by simp at h1 h2 ⊢; omega) (fun a b => by simp; omega) ns
  exact h.imp fun z => by simpa using z
theorem srtI_of {ns : List Int} (h : ns.Pairwise (· < ·)) : srtI ns = ns :=
  (srtI_perm ns).eq_of_pairwise (fun a b _ _ h1 h2 => by omega) (srtI_sorted ns) (h.imp fun z => by omega)
theorem ktx_int {i : Int} (h0 : 0 ≤ i) (h1 : i < 10) : KTx (.int i) (kTx (.int i)) := .inr ⟨i, rfl, by
  have : i.natAbs < 10 := by omega
  exact Nat.lt_of_le_of_lt (Nat.log2_le_self _) (by omega), rfl⟩
theorem fl_fieldR : FlOk "field" := ⟨fun _ _ _ _ _ _ _ _ _ _ _ _ _ => rfl, fun _ _ => rfl, fun _ _ _ _ _ _ => rfl, fun _ _ _ _ _ _ => rfl, fun _ _ _ _ => rfl, fun _ _ _ _ => rfl, by decide⟩
/-- nodes that are right -/
theorem NdsB.mono {K : Frag} {m : Int} {H H' : Hp} {v : V} {b : Bool} (e : Same H H') (h : NdsB K m H v b) : NdsB K m H' v b := by
  cases h with
  | odd ty k => exact .odd (tyX_same e ty) k
  | bad h hl al hb => exact .bad (e _ _ h) hl (al.imp fun v b q => by
      cases q with
      | int n => exact .int n
      | odd ho => exact .odd (ho.mono e)) hb
  | nds h hl hn => exact .nds (e _ _ h) hl hn
theorem WdB.mono {K : Frag} {H H' : Hp} {v : V} {b : Bool} (e : Same H H') (h : WdB K H v b) : WdB K H' v b := by
  cases h with
  | str z h => exact .str z h
  | odd ty k => exact .odd (tyX_same e ty) k
theorem isW_len {z : Str} (h : isW z = true) : z.length ≤ sizeLine := by
  unfold isW at h
  have h1 := ((Bool.and_eq_true _ _).mp h).1
  have h2 := (of_decide_eq_true h1).2
  exact Nat.le_trans h2 (by decide)
theorem al_map {α : Type} {R : V → α → Prop} {β : Type} (f : β → V) (g : β → α) {l : List β} (h : ∀ x ∈ l, R (f x) (g x)) : Al R (l.map f) (l.map g) := by
  refine ⟨by simp, fun i v q h1 h2 => ?_⟩
  rw [List.getElem?_map] at h1 h2
  cases hx : l[i]? with
  | none => rw [hx] at h1; cases h1
  | some x =>
    rw [hx] at h1 h2
    cases h1
    cases h2
    exact h x (List.mem_of_getElem? hx)
theorem words_al {K : Frag} {H : Hp} {ks : List Str} (g : KsG ks) : Al (WdB K H) (ks.map V.str) (ks.map fun _ => true) := al_map V.str (fun _ => true) fun z hz => by
  have h := g.w z hz
  have q : WdB K H (.str z) (isW z) := .str z (isW_len h)
  rw [h] at q
  exact q
theorem RwL.nds {K : Frag} {H : Hp} {a b c : Addr} {R : RwD} (L : RwL H a b c R) (g : RwG R) : ∃ rs, H b = some (.lst rs) ∧ rs.length = R.ks.length ∧ Al (IsInts H) rs R.nx ∧ Al (NdsB K R.ks.length H) rs (R.nx.map fun _ => true) := by
  obtain ⟨rs, h, al⟩ := L.nx
  refine ⟨rs, h, al.1.trans g.nl, al, by rw [List.length_map]; exact al.1, fun i v q h1 h2 => ?_⟩
  rw [List.getElem?_map] at h2
  cases hn : R.nx[i]? with
  | none => rw [hn] at h2; cases h2
  | some ns =>
    rw [hn] at h2
    cases h2
    obtain ⟨l, rfl, hl⟩ := al.2 i v ns h1 hn
    obtain ⟨g1, g2⟩ := g.nx ns (List.mem_of_getElem? hn)
    have q : NdsB K R.ks.length H (.ref l) (decide ns.Nodup) := .nds hl (g.nz ns (List.mem_of_getElem? hn)) g1
    rw [decide_eq_true g2] at q
    exact q
/-- the class of rows -/
structure RwC (Z : Cz) (CR : Addr) : Prop where
  cl : Cls Z.K CR
  nK : NoAttr Z.K CR "own_kinds"
  nN : NoAttr Z.K CR "own_nexts"
  nF : NoAttr Z.K CR "own_firsts"
  mg : Z.mg "Rows" = some (.ref CR)
  ha : findIn Z.K (.ref CR) "__class__" = some (some (.builtin "object.__class__"))
  hn : specialIn Z.K (.builtin "object.__class__") "__get__" = some (some (.builtin "getset_descriptor.__get__"))
  htk : takesIn Z.K (.builtin "object.__class__") = some true
  hm : mroIn Z.K CR (.type "object") = some true
  kCC : kitOne Z.K (.ref CR) (.ref CR) = some true
theorem Gr.self {T : List (Addr × Str)} {H : Hp} {x C dx : Addr} {fs : List (Str × V)} {o : HO} (h : H x = some (.ins C dx fs)) : Gr T (some x) H (upd H x o) :=
  ⟨fun b u hb e _ => by
    rw [upd_ne fun z => hb (by rw [z])]
    exact e, fun t => tabs_put t h (fun _ z => by cases z) (fun _ _ z => by cases z), fun b h => upd_free (fun _ h => h) h⟩
section
variable {Z : Cz} {f CR CB P fB : Addr} {fd : FuncData}
end
end Ps

/-! The laws' own words, prices and rows. -/
namespace Ps
open PySem PySem.Spec PyProof.Rows PySem.W L2 LamX

section
variable {T : List (Addr × Str)} {p q : Addr} {ms : List Int} {H H1 : Hp}
theorem Gp.new {l : Addr} {o : HO} (n : H l = none) : Gp T p q ms H (upd H l o) := .same (Same.upd n)
theorem Gp.free (g : Gp T p q ms H H1) {b : Addr} (h : H1 b = none) : H b = none := g.g.f b h
theorem Gp.put (g : Gp T p q ms H H1) {D : Addr} {xs : List V} {ys : List V} (n : H D = none) (hD : H1 D = some (.lst xs)) : Gp T p q ms H (upd H1 D (.lst ys)) := hr_gp.put g n hD
theorem Gp.putD (g : Gp T p q ms H H1) {D : Addr} {xs : List (Key × V)} {o : HO} (n : H D = none) (hD : H1 D = some (.dK xs)) : Gp T p q ms H (upd H1 D o) := ⟨g.g.putD n hD, fun h0 => by
  obtain ⟨⟨i, h1⟩, h2⟩ := g.pl h0
  obtain ⟨⟨_, g1⟩, g2⟩ := h0
  exact ⟨⟨i, by rw [upd_ne (ne_of_none g1 n)]; exact h1⟩, by rw [upd_ne (ne_of_none g2 n)]; exact h2⟩⟩
theorem Pl.fresh (h : Pl H p q ms) {l : Addr} (n : H l = none) : l ≠ p := by
  obtain ⟨⟨i, h1⟩, _⟩ := h
  exact (ne_of_none h1 n).symm
end
theorem atI_of {xs : List V} {r : Int} {x : V} (h0 : 0 ≤ r) (h : xs[r.toNat]? = some x) : atI xs r = some x := by
  have e : r = ((r.toNat : Nat) : Int) := by omega
  rw [e]
  exact atI_nat h
/-- one of a list -/
def spPick (T : List (Addr × Str)) : Sp := fun vs H Q _ => ∃ (p q : Addr) (ms : List Int) (a : Addr) (xs : List V), vs = [.ref p, .ref a] ∧ Pl H p q ms ∧ H a = some (.lst xs) ∧ a ≠ p ∧ xs ≠ [] ∧ ∀ x H', x ∈ xs → Gp T p q ms H H' → Q x H'
def menu1 : List Str := ["a", "b", "c", "d", "e"]
def menu2 : List Str := ["few", "many", "odd", "x", "general"]
def menu3 : List Str := ["zz", "own", "abcdefgh", "b", "each"]
/-- all words of the laws' menus -/
def allW : List Str := menu1 ++ (menu2 ++ (menu3 ++ (["f", "g", "h", "bb"] : List Str)))
/-- words of a menu -/
structure WsG (ws : List Str) : Prop where
  l1 : 1 ≤ ws.length
  l6 : ws.length ≤ 6
  nd : ws.Nodup
  w : ∀ z ∈ ws, isW z = true
  o : ∀ z ∈ ws, allW.contains z = true
structure WsG5 (ws : List Str) : Prop extends WsG ws where
  l5 : ws.length ≤ 5
def wsB (ws : List Str) : Bool := decide (1 ≤ ws.length) && (decide (ws.length ≤ 6) && (decide ws.Nodup && (ws.all isW && ws.all fun z => allW.contains z)))
theorem wsB_ok {ws : List Str} (h : wsB ws = true) : WsG ws := by
  unfold wsB at h
  simp only [Bool.and_eq_true, decide_eq_true_eq, List.all_eq_true] at h
  exact ⟨h.1, h.2.1, h.2.2.1, h.2.2.2.1, h.2.2.2.2⟩
theorem menus_ok : ∀ m ∈ [menu1, menu2, menu3], ∀ a : Fin 5, ∀ n : Fin 5, wsB ((m.drop a.val ++ m.take a.val).take (n.val + 1)) = true := by decide +kernel
def menuN (i : Nat) : List Str := ([menu1, menu2, menu3][i]?).getD []
def cutW (i a n : Nat) : List Str := (((menuN i).drop a ++ (menuN i).take a)).take n
theorem cut_ok : ∀ i : Fin 3, ∀ a : Fin 5, ∀ n : Fin 5, cutV (cutV ((menuN i.val).map V.str) (some (a.val : Nat)) none ++ cutV ((menuN i.val).map V.str) none (some (a.val : Nat))) none (some ((n.val + 1 : Nat) : Int)) = (cutW i.val a.val (n.val + 1)).map V.str ∧ wsB (cutW i.val a.val (n.val + 1)) = true := by decide +kernel
theorem cut_len : ∀ i : Fin 3, ∀ a : Fin 5, (cutV ((menuN i.val).map V.str) (some (a.val : Nat)) none).length + (cutV ((menuN i.val).map V.str) none (some (a.val : Nat))).length ≤ 10 := by decide +kernel
def spWords (T : List (Addr × Str)) : Sp := fun vs H Q _ => ∃ (p q : Addr) (ms : List Int) (n : Int), vs = [.ref p, .int n] ∧ Pl H p q ms ∧ 1 ≤ n ∧ n ≤ 5 ∧ ∀ (ws : List Str) l H', WsG5 ws → Gp T p q ms H H' → H l = none → H' l = some (.lst (ws.map V.str)) → Q (.ref l) H'
/-- prices, drawn -/
structure PrD where
  make : Int
  gen : Int
  ks : List (Str × Int × Int)
structure PrG (P : PrD) : Prop where
  w : WsG (P.ks.map (·.1))
  m : 0 ≤ P.make ∧ P.make ≤ 12
  g : 0 ≤ P.gen ∧ P.gen ≤ 120
  k : ∀ x ∈ P.ks, (0 < x.2.1 ∧ x.2.1 ≤ 60) ∧ (0 < x.2.2 ∧ x.2.2 ≤ 600)
/-- the dict of kinds -/
def KiAt (H : Hp) (kvs : List (Key × V)) (ks : List (Str × Int × Int)) : Prop := kvs.length = ks.length ∧ ∀ (i : Nat) (kv : Key × V) (x : Str × Int × Int), kvs[i]? = some kv → ks[i]? = some x → kv.1 = .inr x.1 ∧ ∃ t, kv.2 = .ref t ∧ H t = some (.tup [.int x.2.1, .int x.2.2])
def PrAt (H : Hp) (v : V) (P : PrD) : Prop := ∃ d k kvs, v = .ref d ∧ H d = some (.dK [(.inr "make", .int P.make), (.inr "general", .int P.gen), (.inr "kinds", .ref k)]) ∧ H k = some (.dK kvs) ∧ KiAt H kvs P.ks
def spPrices (K : Frag) (T : List (Addr × Str)) : Sp := fun vs H Q _ => ∃ (p q : Addr) (ms : List Int) (a : Addr) (ws : List Str), vs = [.ref p, .ref a] ∧ Pl H p q ms ∧ H a = some (.lst (ws.map V.str)) ∧ a ≠ p ∧ WsG ws ∧ ∀ P v H', PrG P → P.ks.map (·.1) = ws → Gp T p q ms H H' → PrAt H' v P → Q v H'
theorem KiAt.keys {H : Hp} {kvs : List (Key × V)} {ks : List (Str × Int × Int)} (h : KiAt H kvs ks) : kvs.map (·.1) = ks.map fun x => (.inr x.1 : Key) := by
  apply List.ext_getElem?
  intro i
  rw [List.getElem?_map, List.getElem?_map]
  cases h1 : kvs[i]? with
  | none =>
    have := List.getElem?_eq_none_iff.mp h1
    have h2 : ks[i]? = none := List.getElem?_eq_none_iff.mpr (by rw [← h.1]; exact this)
    rw [h2]
    rfl
  | some kv =>
    have hi := (List.getElem?_eq_some_iff.mp h1).1
    have hi2 : i < ks.length := by rw [← h.1]; exact hi
    rw [List.getElem?_eq_getElem hi2]
    exact congrArg some (h.2 i kv ks[i] h1 (List.getElem?_eq_getElem hi2)).1
/-- a written list of ints -/
def litA : List Int → TA
  | [] => tNil
  | i :: r => tCons (tC (.int i)) (litA r)
theorem litA_ok : ∀ (L : List Int) {σ : L2.St} {H : Hp} {Q : List V → Hp → Prop}, Q (L.map V.int) H → litA L σ H Q
  | [], _, _, _, h => h
  | i :: r, _, _, _, h => litA_ok r h
theorem lit_draw {K : Frag} {T : List (Addr × Str)} {p q : Addr} {ms : List Int} {σ : L2.St} {H : Hp} {Q : VK} {E : XK} (L : List Int) {n : Int} (hn : n = L.length) (hL : L.length ≤ 1000) (h0 : 0 < n) (hσ : σ[0]? = some (some (.ref p))) (hP : Pl H p q ms)
    (k : ∀ i H', i ∈ L → Gp T p q ms H H' → Q (.int i) H') : tOp (rIxL K) (tLst (litA L)) (tCall (spDr T) [] E (tCons (tVar 0) (tCons (tC (.int n)) tNil))) σ H Q := by
  refine litA_ok L (Q := fun vs H1 => vs.length ≤ sizeLine ∧ ∀ l, H1 l = none → _) ⟨by rw [List.length_map]; exact Nat.le_of_lt (small1000' (by omega)), fun l hl => ?_⟩
  have g1 : Gp T p q ms H (upd H l (.lst (L.map V.int))) := .new hl
  refine ⟨_, hσ, p, q, ms, n, rfl, g1.pl hP, h0, fun r H2 r0 r1 g2 => ?_⟩
  have hr : r.toNat < L.length := by omega
  refine ⟨l, _, _, .int L[r.toNat], rfl, rfl, SqL.of (g2.at upd_same (hP.fresh hl)), atI_of r0 (by rw [List.getElem?_map, List.getElem?_eq_getElem hr]; rfl), k _ _ (List.getElem_mem hr) (g1.trans g2)⟩
section
variable {Z : Cz} {f : Addr} {fd : FuncData} {T0 : List (Addr × Str)}
theorem ok_lsorted (F : Fun Z.K "_law_sorted" "_law_sorted" s_lw_sorted f fd) (T : WdT Z) (M : Mkr Z T0 fd.code "_law_sorted.<locals>.<lambda>") : Z.ok CX0 2 f fd ["_law_some"] (spAsc Z.K T0) := by
  refine Fun.okC F sc_lw_sorted (fun vs H Q E h => ?_) (fun A outer s H vs Q E hr h => ?_)
  · obtain ⟨a, ys, rfl, _⟩ := h
    rfl
  · obtain ⟨a, ys, rfl, hT, hi, hk, k⟩ := h
    refine ⟨_, pss_one (ps_ret (pe_callBK (call_sortedStr (k := kTx) rfl T.str (hr.mono (by decide))) (by rfl) T.sorted (by decide +kernel) (pa_cons (pv 0) pa_nil) (pk_cons (pe_lamK (Z := Z) (T := T0) M (strL_by (x := "_law_one") rfl rfl rfl (by decide) (fun _ _ _ _ _ _ => rfl) rfl rfl rfl (by decide +kernel))) pk_nil))), ?_⟩
    refine ⟨_, rfl, hT, fun l H1 g1 t1 kl => ⟨a, l, ys, rfl, rfl, kl, ?_, hk, fun p hp => k p _ (g1.trans (.new hp)) (g1.f p hp) upd_same⟩⟩
    rcases hi with hi | hi | ⟨kvs, hd, e⟩
    · exact .inl (g1.seq hi)
    · exact .inr (.inl (g1.seqT hi))
    · exact .inr (.inr ⟨kvs, g1.rdK hd, e⟩)
theorem KiAt.gp {T : List (Addr × Str)} {p q : Addr} {ms : List Int} {H H1 : Hp} {kvs : List (Key × V)} {ks : List (Str × Int × Int)} (g : Gp T p q ms H H1) (hP : Pl H p q ms) (h : KiAt H kvs ks) : KiAt H1 kvs ks :=
  ⟨h.1, fun i kv x h1 h2 => by
    obtain ⟨e, t, e2, ht⟩ := h.2 i kv x h1 h2
    refine ⟨e, t, e2, g.at ht fun z => ?_⟩
    obtain ⟨⟨j, hp⟩, _⟩ := hP
    rw [z, hp] at ht
    cases ht⟩
theorem KiAt.upd {H : Hp} {D : Addr} {u : List (Key × V)} {o : HO} {kvs : List (Key × V)} {ks : List (Str × Int × Int)} (hD : H D = some (.dK u)) (h : KiAt H kvs ks) : KiAt (L2.upd H D o) kvs ks :=
  ⟨h.1, fun i kv x h1 h2 => by
    obtain ⟨e, t, e2, ht⟩ := h.2 i kv x h1 h2
    refine ⟨e, t, e2, ?_⟩
    rw [upd_ne fun z => by rw [z, hD] at ht; cases ht]
    exact ht⟩
theorem KiAt.snoc {H : Hp} {kvs : List (Key × V)} {ks : List (Str × Int × Int)} {w : Str} {a b : Int} {t : Addr} (h : KiAt H kvs ks) (ht : H t = some (.tup [.int a, .int b])) : KiAt H (kvs ++ [(.inr w, .ref t)]) (ks ++ [(w, a, b)]) := by
  refine ⟨by simp [h.1], fun i kv x h1 h2 => ?_⟩
  by_cases hi : i < kvs.length
  · rw [List.getElem?_append_left hi] at h1
    rw [List.getElem?_append_left (by rw [← h.1]; exact hi)] at h2
    exact h.2 i kv x h1 h2
  · rw [List.getElem?_append_right (by omega)] at h1
    rw [List.getElem?_append_right (by rw [← h.1]; omega), ← h.1] at h2
    cases hj : i - kvs.length with
    | zero =>
      rw [hj] at h1 h2
      cases h1
      cases h2
      exact ⟨rfl, t, rfl, ht⟩
    | succ j =>
      rw [hj] at h1
      cases h1
theorem KiAt.no {H : Hp} {kvs : List (Key × V)} {ks : List (Str × Int × Int)} {w : Str} (h : KiAt H kvs ks) (hw : w ∉ ks.map (·.1)) : valV kvs (.inr w) = none := by
  unfold valV
  rw [List.find?_eq_none.mpr fun kv hm => ?_]
  · rfl
  · obtain ⟨i, hi⟩ := List.getElem?_of_mem hm
    have hl := (List.getElem?_eq_some_iff.mp hi).1
    have hl2 : i < ks.length := by rw [← h.1]; exact hl
    have e := (h.2 i kv ks[i] hi (List.getElem?_eq_getElem hl2)).1
    intro z
    have z' : kv.1 = .inr w := by simpa using z
    rw [e] at z'
    exact hw (by rw [← Sum.inr.inj z']; exact List.mem_map_of_mem (List.getElem_mem hl2))
theorem ok_prices (F : Fun Z.K "_law_prices" "_law_prices" s_lw_prices f fd) (c_lw_draw : Cal Z CX0 1 "_law_draw" ["_law_pool_here", "_law_many"] [] (spDr T0)) : Z.ok CX0 2 f fd ["_law_pool_here", "_law_words"] (spPrices Z.K T0) := by
  refine F.ok sc_lw_prices (fun vs H Q E h => ?_) (fun cdv A outer s H vs Q E hr h => ?_)
  · obtain ⟨p, q, ms, a, ws, rfl, _⟩ := h
    rfl
  · obtain ⟨p, q, ms, a, ws, rfl, hP, ha, hap, hW, k⟩ := h
    refine ⟨_, (pss_cons (ps_set (i := 2) sc_lw_prices.nd rfl (Or.inl rfl) pe_dnewK)
      (pss_cons (ps_for PassesOwn.never rfl (pi_list (pv 1)) (pg_name (i := 3) sc_lw_prices.nd rfl (Or.inl rfl))
      (pss_cons (ps_set (i := 4) sc_lw_prices.nd rfl (Or.inl rfl) (pe_ix ix_list (pe_lst (pa_cons pe_int (pa_cons pe_int (pa_cons pe_int (pa_cons pe_int (pa_cons pe_int (pa_cons pe_int (pa_cons pe_int pa_nil)))))))) (pe_cal c_lw_draw (hr.mono (by decide)) (by rfl) pass0 (pa_cons (pv 0) (pa_cons pe_int pa_nil))) (fun _ _ => rfl)))
        (pss_one (ps_dput (hu_of hr) (pv 2) (pv 3) (pe_tup (pa_cons (pv 4) (pa_cons (pe_ix ix_list (pe_lst (pa_cons pe_int (pa_cons pe_int (pa_cons pe_int (pa_cons pe_int (pa_cons pe_int (pa_cons pe_int (pa_cons pe_int pa_nil)))))))) (pe_cal c_lw_draw (hr.mono (by decide)) (by rfl) pass0 (pa_cons (pv 0) (pa_cons pe_int pa_nil))) (fun _ _ => rfl)) pa_nil))) rfl))))
      (pss_cons (ps_par (i := 5) (j := 6) (by rfl) sc_lw_prices.nd rfl rfl (by decide) rfl rfl (pa_cons (pe_ix ix_list (pe_lst (pa_cons pe_int (pa_cons pe_int (pa_cons pe_int (pa_cons pe_int (pa_cons pe_int (pa_cons pe_int pa_nil))))))) (pe_cal c_lw_draw (hr.mono (by decide)) (by rfl) pass0 (pa_cons (pv 0) (pa_cons pe_int pa_nil))) (fun _ _ => rfl)) (pa_cons (pe_ix ix_list (pe_lst (pa_cons pe_int (pa_cons pe_int (pa_cons pe_int (pa_cons pe_int (pa_cons pe_int (pa_cons pe_int pa_nil))))))) (pe_cal c_lw_draw (hr.mono (by decide)) (by rfl) pass0 (pa_cons (pv 0) (pa_cons pe_int pa_nil))) (fun _ _ => rfl)) pa_nil)) (by rfl))
      (pss_one (ps_ret (pe_disp (pps_cons pe_str (pv 5) (pps_cons pe_str (pv 6) (pps_cons pe_str (pv 2) pps_nil))) (by rfl) (by rfl) (fun z => by cases z) (by decide))))))), ?_⟩
    intro D hD
    have g0 : Gp T0 p q ms H (upd H D (.dK [])) := .new hD
    have hDp : D ≠ p := hP.fresh hD
    have hD0 : (upd H D (.dK [])) D = some (.dK []) := upd_same
    show tSeq _ _ _ [some (.ref p), some (.ref a), some (.ref D), none, none, none, none] (upd H D (.dK []))
    generalize (upd H D (.dK [])) = H0 at g0 hD0 ⊢
    refine ⟨_, rfl, a, rfl, ⟨_, SqL.of (g0.at ha hap)⟩, ?_⟩
    refine for_list (K := Z.K) (a := a) (xs := ws.map V.str) (fun i σ H' => Gp T0 p q ms H H' ∧ ∃ o1 o2 kvs ks, σ = [some (.ref p), some (.ref a), some (.ref D), o1, o2, none, none] ∧ H' D = some (.dK kvs) ∧ KiAt H' kvs ks ∧ ks.map (·.1) = ws.take i ∧ ∀ x ∈ ks, (0 < x.2.1 ∧ x.2.1 ≤ 60) ∧ (0 < x.2.2 ∧ x.2.2 ≤ 600))
      ⟨g0, none, none, [], [], rfl, hD0, ⟨rfl, fun i kv x h => by cases h⟩, rfl, fun x hx => by cases hx⟩ (fun i σ H' _ ⟨g, _⟩ => SqL.of (g.at ha hap)) ?_ ?_
    · rintro i y σ H1 hy ⟨g1, o1, o2, kvs, ks, rfl, hD1, hK1, hks, hpr⟩
      rw [List.getElem?_map] at hy
      cases hw : ws[i]? with
      | none => rw [hw] at hy; cases hy
      | some w =>
        rw [hw] at hy
        cases hy
        have hi := (List.getElem?_eq_some_iff.mp hw).1
        have hP1 := g1.pl hP
        refine lit_draw [6, 3, 12, 6, 18, 60, 4] rfl (by decide) (by decide) rfl hP1 fun own H2 ho g2 => ?_
        have hP2 := g2.pl hP1
        refine ⟨_, rfl, ?_⟩
        refine lit_draw [6, 12, 3, 24, 60, 600, 2] rfl (by decide) (by decide) rfl hP2 fun gen H3 hg g3 => ?_
        have g13 := g2.trans g3
        have hD3 := g13.at hD1 hDp
        refine ⟨(by show 2 ≤ sizeLine; decide), fun t ht => ?_⟩
        have e4 := Same.upd (o := .tup [.int own, .int gen]) ht
        have hno : w ∉ ks.map (·.1) := fun hm => by
          rw [hks] at hm
          have hnd : (ws.take (i + 1)).Nodup := List.Sublist.nodup (List.take_sublist _ _) hW.nd
          rw [List.take_succ, hw] at hnd
          exact (List.nodup_append.mp hnd).2.2 _ hm _ (by simp) rfl
        have hK3 := hK1.gp g13 hP1
        have hkl : kvs.length ≤ 10 := by
          have h1 := hK1.1
          have h2 := congrArg List.length hks
          rw [List.length_map, List.length_take] at h2
          have := hW.l6
          omega
        have hD4 := e4 _ _ hD3
        refine ⟨_, rfl, _, rfl, D, _, rfl, .k (k := .inr w) hD4 (small1000' (by omega)), ?_⟩
        have hK4 : KiAt (upd H3 t (.tup [.int own, .int gen])) kvs ks := ⟨hK3.1, fun i kv x h1 h2 => by
          obtain ⟨q1, t', q2, q3⟩ := hK3.2 i kv x h1 h2
          exact ⟨q1, t', q2, e4 _ _ q3⟩⟩
        have g4 := g1.trans (g13.trans (.same e4))
        refine ⟨g4.putD hD hD4, _, _, kvs ++ [(.inr w, .ref t)], ks ++ [(w, own, gen)], rfl, ?_, (hK4.snoc upd_same).upd hD4, ?_, fun x hx => ?_⟩
        · rw [upd_same, putK_new _ (hK3.no hno)]
        · rw [List.map_append, hks, List.take_succ, hw]
          rfl
        · rcases List.mem_append.mp hx with hx | hx
          · exact hpr x hx
          · rw [List.mem_singleton.mp hx]
            simp only [List.mem_cons, List.not_mem_nil, or_false] at ho hg
            constructor <;> constructor <;> simp only <;> omega
    · rintro σ H1 ⟨g1, o1, o2, kvs, ks, rfl, hD1, hK1, hks, hpr⟩
      rw [List.length_map, List.take_length] at hks
      have hP1 := g1.pl hP
      refine lit_draw [6, 0, 12, 3, 2, 6] rfl (by decide) (by decide) rfl hP1 fun mk H2 hm g2 => ?_
      have hP2 := g2.pl hP1
      refine lit_draw [6, 0, 18, 30, 1, 120] rfl (by decide) (by decide) rfl hP2 fun gm H3 hg g3 => ?_
      refine ⟨_, _, rfl, ?_⟩
      intro D2 hD2
      refine ⟨_, rfl, _, rfl, _, rfl, upd_same, [(.inr "make", .int mk), (.inr "general", .int gm), (.inr "kinds", .ref D)], rfl, (by show 3 ≤ 15; decide), ?_⟩
      have g13 := g2.trans g3
      have hK3 := hK1.gp g13 hP1
      have hD3 := g13.at hD1 hDp
      have e4 : Same H3 (upd (upd H3 D2 (.dK [])) D2 (.dK (mergeK [] [(.inr "make", .int mk), (.inr "general", .int gm), (.inr "kinds", .ref D)]))) := by
        rw [upd_upd]
        exact Same.upd hD2
      refine k ⟨mk, gm, ks⟩ (.ref D2) _ ⟨by rw [hks]; exact hW, ?_, ?_, hpr⟩ hks (g1.trans (g13.trans (.same e4))) ⟨D2, D, kvs, rfl, upd_same, e4 _ _ hD3, hK3.1, fun i kv x h1 h2 => ?_⟩
      · simp only [List.mem_cons, List.not_mem_nil, or_false] at hm
        constructor <;> simp only <;> omega
      · simp only [List.mem_cons, List.not_mem_nil, or_false] at hg
        constructor <;> simp only <;> omega
      · obtain ⟨q1, t', q2, q3⟩ := hK3.2 i kv x h1 h2
        exact ⟨q1, t', q2, e4 _ _ q3⟩
end
end Ps

/-! Shares as fractions t / u of ints. -/
namespace Ps
open PySem PySem.Spec PyProof.Rows PySem.W L2

/-- q is t / u -/
structure Frc (q : Int × Int) (t u : Int) : Prop where
  p : 0 < q.2
  du : 0 < u
  e : q.1 * u = t * q.2
section
variable {q r : Int × Int} {t u v w : Int}
theorem Frc.low (hu : 0 < u) : Frc (Ps.low t u) t u := by
  have h1 := low_fst (t := t) (u := u) (by omega)
  have h2 := low_snd (t := t) (u := u) (by omega)
  have h3 := low_pos (t := t) (u := u) (by omega)
  refine ⟨h3, hu, ?_⟩
  generalize hq : Ps.low t u = q at *
  generalize lowG t u = g at *
  rw [← h2]
  have : t = q.1 * g := h1.symm
  rw [this]
  grind
theorem Frc.int (i : Int) : Frc (i, 1) i 1 := ⟨by show (0 : Int) < 1; decide, by decide, by show i * 1 = i * 1; rfl⟩
theorem Frc.of_low {a b : Int} (hb : 0 < b) (hu : 0 < u) (h : a * u = t * b) : Frc (Ps.low a b) t u := by
  have f := Frc.low (t := a) hb
  refine ⟨f.p, hu, ?_⟩
  have e := f.e
  have hb0 : b ≠ 0 := by omega
  apply Int.eq_of_mul_eq_mul_right hb0
  generalize (Ps.low a b) = q at *
  grind
theorem Frc.add (h : Frc q t u) (k : Frc r v w) : Frc (gAdd q r) (t * w + v * u) (u * w) := by
  refine Frc.of_low (Int.mul_pos h.p k.p) (Int.mul_pos h.du k.du) ?_
  have a := h.e
  have b := k.e
  grind
theorem Frc.mul (h : Frc q t u) (k : Frc r v w) : Frc (gMul q r) (t * v) (u * w) := by
  refine Frc.of_low (Int.mul_pos h.p k.p) (Int.mul_pos h.du k.du) ?_
  have a := h.e
  have b := k.e
  grind
theorem Frc.by_ (h : Frc q t u) (k : Frc r v w) (hv : 0 < v) : Frc (gBy q r) (t * w) (u * v) := by
  have hr : 0 < r.1 := by
    have e := k.e
    have h1 : 0 < r.1 * w := by rw [e]; exact Int.mul_pos hv k.p
    rcases Int.lt_trichotomy r.1 0 with h2 | h2 | h2
    · have := Int.mul_neg_of_neg_of_pos h2 k.du
      omega
    · rw [h2, Int.zero_mul] at h1
      omega
    · exact h2
  refine Frc.of_low (Int.mul_pos h.p hr) (Int.mul_pos h.du hv) ?_
  have a := h.e
  have b := k.e
  grind
theorem Frc.scale (h : Frc q t u) {k : Int} (hk : 0 < k) : Frc q (k * t) (k * u) := ⟨h.p, Int.mul_pos hk h.du, by have := h.e; grind⟩
theorem Frc.unscale {k : Int} (h : Frc q (k * t) (k * u)) (hk : 0 < k) (hu : 0 < u) : Frc q t u := by
  refine ⟨h.p, hu, ?_⟩
  have := h.e
  apply Int.eq_of_mul_eq_mul_left (show k ≠ 0 by omega)
  grind
theorem Frc.min (h : Frc q t u) (k : Frc r v w) : gMin q r * (u * w) = (t * w - v * u) * (q.2 * r.2) := by
  unfold gMin
  have a := h.e
  have b := k.e
  grind
theorem Frc.lt (h : Frc q t u) (k : Frc r v w) : gMin q r < 0 ↔ t * w < v * u := by
  have m := h.min k
  have p1 := Int.mul_pos h.du k.du
  have p2 := Int.mul_pos h.p k.p
  constructor
  · intro z
    have h1 : gMin q r * (u * w) < 0 := Int.mul_neg_of_neg_of_pos z p1
    rw [m] at h1
    have h2 : t * w - v * u < 0 := by
      rcases (Int.lt_or_le (t * w - v * u) 0) with h3 | h3
      · exact h3
      · have := Int.mul_nonneg h3 (Int.le_of_lt p2)
        omega
    omega
  · intro z
    have h1 : (t * w - v * u) * (q.2 * r.2) < 0 := Int.mul_neg_of_neg_of_pos (by omega) p2
    rw [← m] at h1
    rcases (Int.lt_or_le (gMin q r) 0) with h3 | h3
    · exact h3
    · have := Int.mul_nonneg h3 (Int.le_of_lt p1)
      omega
theorem Frc.eq (h : Frc q t u) (k : Frc r v w) : gMin q r = 0 ↔ t * w = v * u := by
  have m := h.min k
  have p1 := Int.mul_pos h.du k.du
  have p2 := Int.mul_pos h.p k.p
  constructor
  · intro z
    rw [z, Int.zero_mul] at m
    rcases Int.mul_eq_zero.mp m.symm with h3 | h3
    · omega
    · omega
  · intro z
    rw [show t * w - v * u = 0 by omega, Int.zero_mul] at m
    rcases Int.mul_eq_zero.mp m with h3 | h3
    · exact h3
    · omega
theorem gMin_neg (q r : Int × Int) : gMin r q = -gMin q r := by unfold gMin; omega
theorem Frc.gt (h : Frc q t u) (k : Frc r v w) : 0 < gMin q r ↔ v * u < t * w := by
  have := k.lt h
  rw [gMin_neg] at this
  constructor
  · intro z; exact this.mp (by omega)
  · intro z; have := this.mpr z; omega
theorem Frc.sum {u : Int} (hu : 0 < u) : ∀ (l : List (Int × Int)) (ts : List Int), l.length = ts.length → (∀ (i : Nat) q t, l[i]? = some q → ts[i]? = some t → Frc q t u) → ∀ s x, Frc s x u → Frc (l.foldl gAdd s) (x + ts.sum) u
  | [], [], _, _, s, x, h => by simpa using h
  | q :: l, t :: ts, hl, h, s, x, hs => by
    have h0 := h 0 q t rfl rfl
    have h1 : Frc (gAdd s q) (x + t) u := by
      have := hs.add h0
      have e1 : x * u + t * u = u * (x + t) := by grind
      rw [e1] at this
      exact this.unscale hu hu
    have := Frc.sum hu l ts (by simpa using hl) (fun i q t a b => h (i + 1) q t a b) _ _ h1
    rw [List.foldl_cons, List.sum_cons, ← Int.add_assoc]
    exact this
  | [], _ :: _, hl, _, _, _, _ => by cases hl
  | _ :: _, [], hl, _, _, _, _ => by cases hl
end
end Ps

/-! The laws' own prices, made. -/
namespace Ps
open PySem PySem.Spec PyProof.Rows PySem.W L2 LamX

/-- Prices where nothing is raised -/
def spPrices0 (T : List (Addr × Str)) (C CP : Addr) : Sp := fun vs H Q _ => ∃ x dx v1 v2 d q1 q2 ks H0, vs = [.ref x, v1, v2, .ref d] ∧ H x = some (.ins CP dx []) ∧ Same H0 H ∧ H0 x = none ∧ Tabs T H0 ∧ Nb C H0 v1 q1 ∧ Qn q1 ∧ Nb C H0 v2 q2 ∧ Qn q2 ∧ KnAt C H0 d ks ∧ KnG ks ∧
  ∀ H' a b d' kvs, Grow T H0 H' → H' x = some (.ins CP dx (prF a b d')) → Sh C H' a q1 → Sh C H' b q2 → H0 d' = none → H' d' = some (.dK kvs) → KdAt C H' kvs (srtK ks) → Q .non H'
theorem spPrices0_of {K : Frag} {T : List (Addr × Str)} {C CP CB : Addr} {vs : List V} {H : Hp} {Q : VK} {E : XK} (h : spPrices0 T C CP vs H Q E) : spPricesI K T C CP CB vs H Q E0 := by
  obtain ⟨x, dx, v1, v2, d, q1, q2, ks, H0, rfl, hx, e0, hx0, hT, n1, g1, n2, g2, hd, gk, k⟩ := h
  exact ⟨x, dx, v1, v2, .ref d, .inr ⟨q1, q2, ks⟩, H0, rfl, hx, e0, hx0, hT, .inr ⟨q1, n1, g1, .inr ⟨q2, n2, g2, .inr ⟨d, ks, rfl, hd, gk, rfl⟩⟩⟩, k⟩
/-- Prices(..): what its reading asks -/
theorem mk_prices {T : List (Addr × Str)} {C CP d : Addr} {v1 v2 : V} {q1 q2 : Int × Int} {ks : List (Str × Q2)} {H : Hp} {Q : VK} {E : XK} (hT : Tabs T H) (n1 : Nb C H v1 q1) (g1 : Qn q1) (n2 : Nb C H v2 q2) (g2 : Qn q2) (hd : KnAt C H d ks) (gk : KnG ks)
    (k : ∀ w H', Grow T H H' → PrAtS C CP H' w ⟨q1, q2, srtK ks⟩ → (∀ a, w = .ref a → H a = none) → Q w H') :
    ∀ x dx, H x = none → H dx = none → dx ≠ x → spPrices0 T C CP [.ref x, v1, v2, .ref d] (upd (upd H dx (.own x)) x (.ins CP dx [])) (fun v H2 => v = .non ∧ Q (.ref x) H2) E := by
  intro x dx hx hdx hne
  have n : (upd H dx (.own x)) x = none := by rw [upd_ne hne.symm]; exact hx
  have s : Same H (upd (upd H dx (.own x)) x (.ins CP dx [])) := (Same.upd hdx).trans (Same.upd n)
  refine ⟨x, dx, v1, v2, d, q1, q2, ks, H, rfl, upd_same, s, hx, hT, n1, g1, n2, g2, hd, gk, fun H' a b d' kvs g hx' ha hb hd0 hd' hk => ⟨rfl, k _ _ g ⟨x, dx, a, b, d', kvs, rfl, hx', ha, hb, hd', hk⟩ fun a z => ?_⟩⟩
  cases z
  exact hx
def prOf (P : PrD) : PrS := ⟨low P.make 6, low P.gen 6, srtK (P.ks.map fun x => (x.1, low x.2.1 6, low x.2.2 6))⟩
def lkD (P : PrD) (w : Str) : Int × Int := ((P.ks.find? fun x => decide (x.1 = w)).map (·.2)).getD (1, 1)
theorem low6_pos {n : Int} (h : 0 < n) : 0 < (low n 6).1 := by
  have f := Frc.low (t := n) (u := 6) (by decide)
  have e := f.e
  have p := f.p
  rcases Int.lt_or_le 0 (low n 6).1 with h2 | h2
  · exact h2
  · have h3 : 0 < n * (low n 6).2 := Int.mul_pos h p
    omega
theorem low6_nn {n : Int} (h : 0 ≤ n) : 0 ≤ (low n 6).1 := by
  have f := Frc.low (t := n) (u := 6) (by decide)
  have e := f.e
  have p := f.p
  have h3 : 0 ≤ n * (low n 6).2 := Int.mul_nonneg h (Int.le_of_lt p)
  omega
theorem qn6 {n : Int} (h0 : 0 ≤ n) (h1 : n ≤ 1000) : Qn (low n 6) := ⟨Lw.of (by decide), Sz.of_low (by decide) (lt_up (m := 10) (by omega) (by decide)) (lt_up (m := 10) (by decide) (by decide)), low6_nn h0⟩
theorem prOf_kn {P : PrD} (g : PrG P) : KnG (P.ks.map fun x => (x.1, low x.2.1 6, low x.2.2 6)) := by
  have e : (P.ks.map fun x => ((x.1, low x.2.1 6, low x.2.2 6) : Str × Q2)).map (·.1) = P.ks.map (·.1) := by rw [List.map_map]; rfl
  refine ⟨by rw [List.length_map]; have := g.w.l1; rw [List.length_map] at this; exact this, by rw [List.length_map]; have := g.w.l6; rw [List.length_map] at this; exact this, by rw [e]; exact g.w.nd, fun x hx => ?_, fun x hx => ?_⟩
  · obtain ⟨y, hy, rfl⟩ := List.mem_map.mp hx
    exact g.w.w _ (List.mem_map.mpr ⟨y, hy, rfl⟩)
  · obtain ⟨y, hy, rfl⟩ := List.mem_map.mp hx
    obtain ⟨⟨a1, a2⟩, ⟨b1, b2⟩⟩ := g.k y hy
    exact ⟨⟨qn6 (by omega) (by omega), low6_pos a1⟩, ⟨qn6 (by omega) (by omega), low6_pos b1⟩⟩
theorem prOf_ok {P : PrD} (g : PrG P) : PrG' (prOf P) := ⟨qn6 g.m.1 (by have := g.m.2; omega), qn6 g.g.1 (by have := g.g.2; omega), (prOf_kn g).srt⟩
theorem prOf_names (P : PrD) (w : Str) : w ∈ (prOf P).ks.map (·.1) ↔ w ∈ P.ks.map (·.1) := by
  have p := (srtK_perm (P.ks.map fun x => (x.1, low x.2.1 6, low x.2.2 6))).map (·.1)
  rw [show (prOf P).ks.map (·.1) = (srtK (P.ks.map fun x => (x.1, low x.2.1 6, low x.2.2 6))).map (·.1) from rfl, p.mem_iff, List.map_map]
  exact Iff.rfl
theorem lkD_of {P : PrD} (g : PrG P) {x : Str × Int × Int} (h : x ∈ P.ks) : lkD P x.1 = x.2 := by
  have nd := g.w.nd
  unfold lkD
  generalize P.ks = ks at h nd
  induction ks with
  | nil => cases h
  | cons y r ih =>
    rw [List.map_cons, List.nodup_cons] at nd
    rw [List.find?_cons]
    rcases List.mem_cons.mp h with rfl | h
    · simp
    · have hne : ¬ y.1 = x.1 := fun z => nd.1 (List.mem_map.mpr ⟨x, h, z.symm⟩)
      rw [decide_eq_false hne]
      exact ih h nd.2
theorem lkD_in {P : PrD} (g : PrG P) {w : Str} (h : w ∈ P.ks.map (·.1)) : (w, lkD P w) ∈ P.ks := by
  obtain ⟨x, hx, rfl⟩ := List.mem_map.mp h
  rw [lkD_of g hx]
  exact hx
theorem lk_both {P : PrD} (g : PrG P) {w : Str} (h : w ∈ P.ks.map (·.1)) : lkP (prOf P) w = (low (lkD P w).1 6, low (lkD P w).2 6) := by
  refine lkP_of (prOf_ok g).ks ?_
  exact (srtK_perm _).mem_iff.mpr (List.mem_map.mpr ⟨_, lkD_in g h, rfl⟩)
def spLShare (C : Addr) : Sp := fun vs H Q _ => ∃ n : Int, vs = [.int n] ∧ ∀ v H', Same H H' → Sh C H' v (low n 6) → Q v H'
def spMPrices (T : List (Addr × Str)) (C CP : Addr) : Sp := fun vs H Q _ => ∃ v P, vs = [v] ∧ PrAt H v P ∧ PrG P ∧ Tabs T H ∧ ∀ w H', Grow T H H' → PrAtS C CP H' w (prOf P) → (∀ a, w = .ref a → H a = none) → Q w H'
theorem merge_nd {kvs : List (Key × V)} (nd : (kvs.map (·.1)).Nodup) : mergeK [] kvs = kvs := by
  have : ∀ (r acc : List (Key × V)), ((acc ++ r).map (·.1)).Nodup → mergeK acc r = acc ++ r := by
    intro r
    induction r with
    | nil => intro acc _; simp [mergeK]
    | cons kv r ih =>
      intro acc h
      have hm : kv.1 ∉ acc.map (·.1) := by
        rw [List.map_append, List.map_cons, List.nodup_append] at h
        exact fun z => h.2.2 _ z _ (List.mem_cons_self ..) rfl
      show mergeK (putK acc kv.1 kv.2) r = _
      rw [putK_end hm, ih _ (by rw [List.append_assoc]; exact h), List.append_assoc]
      rfl
  exact this kvs [] nd
section
variable {Z : Cz} {f C CP : Addr} {fd : FuncData} {T0 : List (Addr × Str)}
theorem ok_mprices (F : Fun Z.K "_law_made_prices" "_law_made_prices" s_lw_made_prices f fd) (W : WdT Z) (md : Z.mg "dict" = none) (c : CShare Z C) (c_Prices : CalC Z CX0 9 CP "Prices" ["self", "make", "general_make", "kinds"] [] (spPrices0 T0 C CP)) : Z.ok CX0 11 f fd ["_law_prices_here"] (spMPrices T0 C CP) := by
  refine F.ok sc_lw_made_prices (fun vs H Q E h => ?_) (fun cdv A outer s H vs Q E hr h => ?_)
  · obtain ⟨v, P, rfl, _⟩ := h
    rfl
  · obtain ⟨v, P, rfl, hP, g, hT, k⟩ := h
    refine ⟨_, (pss_cons (ps_set (i := 1) sc_lw_made_prices.nd rfl (Or.inr rfl) (pe_dget (hu_of hr) (pv 0) pe_str (fun _ _ => rfl)))
      (pss_cons (ps_set (i := 2) sc_lw_made_prices.nd rfl (Or.inl rfl) (pe_callTy (call_dictP rfl) (by rfl) md (by decide +kernel) (pa_cons (pe_lock (pe_lc (own := [("_law_word", 3)]) (g := gName 3) (tt := tYes) (by rfl) sc_lw_made_prices.nd (pi_keys (pv 1)) (blkOk_by (own := [("_law_word", 3)]) (N := ["_law_prices_here", "_law_kinds", "_law_given", "_law_word"]) (sc := defScope s_lw_made_prices) (by decide +kernel)) (fun _ _ _ _ _ => (pg_name (i := 3) sc_lw_made_prices.nd rfl (Or.inl rfl))) (fun _ _ _ _ _ => pts_nil) (fun _ _ _ _ _ => (pe_tup (pa_cons (pv 3) (pa_cons (pe_tup (pa_cons (pe_calC c (hr.mono (by decide)) (by rfl) pass0 (pa_cons (pe_ix (show IxR _ (rIxT Z.K) from ix_tup) (pe_dget (hu_of hr) (pv 1) (pv 3) (fun _ _ => rfl)) pe_int (fun _ _ => rfl)) (pa_cons pe_int pa_nil))) (pa_cons (pe_calC c (hr.mono (by decide)) (by rfl) pass0 (pa_cons (pe_ix (show IxR _ (rIxT Z.K) from ix_tup) (pe_dget (hu_of hr) (pv 1) (pv 3) (fun _ _ => rfl)) pe_int (fun _ _ => rfl)) (pa_cons pe_int pa_nil))) pa_nil))) pa_nil)))))) pa_nil)))
      (pss_one (ps_ret (pe_calC c_Prices hr (by rfl) pass0 (pa_cons (pe_calC c (hr.mono (by decide)) (by rfl) pass0 (pa_cons (pe_dget (hu_of hr) (pv 0) pe_str (fun _ _ => rfl)) (pa_cons pe_int pa_nil))) (pa_cons (pe_calC c (hr.mono (by decide)) (by rfl) pass0 (pa_cons (pe_dget (hu_of hr) (pv 0) pe_str (fun _ _ => rfl)) (pa_cons pe_int pa_nil))) (pa_cons (pv 2) pa_nil)))))))), ?_⟩
    obtain ⟨d, kd, kvs, rfl, hd, hk, hki⟩ := hP
    refine ⟨_, rfl, d, _, rfl, .inl ⟨_, .inr "kinds", .inl hd, rfl, rfl⟩, ?_⟩
    have l6 := g.w.l6
    rw [List.length_map] at l6
    have nd : (kvs.map (·.1)).Nodup := by
      rw [hki.keys]
      have e : (P.ks.map fun x => (.inr x.1 : Key)) = (P.ks.map (·.1)).map fun w => (.inr w : Key) := by rw [List.map_map]; rfl
      rw [e]
      exact List.Pairwise.map _ (fun a b hab z => hab (Sum.inr.inj z)) g.w.nd
    refine lkR (bs := P.ks) (fun y (x : Str × Int × Int) H' => ∃ t t2 a b, y = V.ref t ∧ H' t = some (.tup [.str x.1, .ref t2]) ∧ H' t2 = some (.tup [a, b]) ∧ Sh C H' a (low x.2.1 6) ∧ Sh C H' b (low x.2.2 6)) rfl hk hki.1.symm (by have := hki.1; omega) ?_ ?_ ?_
    · rintro y x H2 H3 ⟨t, t2, a, b, rfl, h1, h2, ⟨aa, da, ea, ha⟩, ⟨bb, db, eb, hb⟩⟩ e
      exact ⟨t, t2, a, b, rfl, e _ _ h1 (fun _ z => nomatch z) (fun _ _ z => nomatch z), e _ _ h2 (fun _ z => nomatch z) (fun _ _ z => nomatch z), ⟨aa, da, ea, e _ _ ha (fun _ z => nomatch z) (fun _ _ z => nomatch z)⟩, ⟨bb, db, eb, e _ _ hb (fun _ z => nomatch z) (fun _ _ z => nomatch z)⟩⟩
    · rintro n ky v x H2 Qe hn hxn f2 ⟨od, hfz⟩ kk
      obtain ⟨e1, t0, e2, ht0⟩ := hki.2 n (ky, v) x hn hxn
      have e1 : ky = .inr x.1 := e1
      have e2 : v = .ref t0 := e2
      subst e1
      subst e2
      have dg : ∀ {H3 : Hp}, Same H2 H3 → DGet H3 kd (.str x.1) (some (.ref t0)) := fun {H3} e => .inl ⟨kvs, .inr x.1, .inr ⟨od, e _ _ hfz⟩, rfl, (valV_nd nd hn).symm⟩
      have tg : ∀ {H3 : Hp}, Same H2 H3 → SqT Z.K H3 t0 [.int x.2.1, .int x.2.2] := fun {H3} e => SqT.of (e _ _ (f2.at ht0))
      refine ⟨_, rfl, _, rfl, _, rfl, kd, _, rfl, dg (Same.refl _), t0, _, _, _, rfl, rfl, tg (Same.refl _), rfl, fun xa dx hxa hdx hne => ?_⟩
      refine mk_shI (by decide) (by decide +kernel) hxa hdx hne fun H3 e3 z3 => ⟨rfl, ?_⟩
      refine ⟨_, rfl, _, rfl, kd, _, rfl, dg e3, t0, _, _, _, rfl, rfl, tg e3, rfl, fun xb db hxb hdb hneb => ?_⟩
      refine mk_shI (by decide) (by decide +kernel) hxb hdb hneb fun H4 e4 z4 => ⟨rfl, ?_⟩
      refine ⟨(by show 2 ≤ sizeLine; decide), fun t2 ht2 => ⟨(by show 2 ≤ sizeLine; decide), fun t1 ht1 => ?_⟩⟩
      have e5 := Same.upd (o := .tup [.ref xa, .ref xb]) ht2
      have e6 := Same.upd (o := .tup [.str x.1, .ref t2]) ht1
      exact kk _ _ (e3.trans (e4.trans (e5.trans e6))) ⟨t1, t2, _, _, rfl, upd_same, e6 _ _ upd_same, ((z3.mono e4).mono e5).mono e6, (z4.mono e5).mono e6⟩
    rintro D ys H1 e1 hD hD1 al
    -- the pairs
    have hyl := al.1
    obtain ⟨ts, rfl⟩ : ∃ ts : List Addr, ys = ts.map V.ref := by
      have : ∀ y ∈ ys, ∃ t, y = V.ref t := fun y hy => by
        obtain ⟨i, hi⟩ := List.getElem?_of_mem hy
        obtain ⟨x, _, t, _, _, _, e, _⟩ := al.get hi
        exact ⟨t, e⟩
      clear al hD1 hyl
      induction ys with
      | nil => exact ⟨[], rfl⟩
      | cons y r ih =>
        obtain ⟨t, rfl⟩ := this y (List.mem_cons_self ..)
        obtain ⟨ts, rfl⟩ := ih fun z hz => this z (List.mem_cons_of_mem _ hz)
        exact ⟨t :: ts, rfl⟩
    rw [List.length_map] at hyl
    obtain ⟨kv2, pk, hkv⟩ : ∃ kv2 : List (Key × V), Paired (fun p kv => SqT Z.K H1 p [kV kv.1, kv.2]) ts kv2 ∧ KdAt C H1 kv2 (P.ks.map fun x => (x.1, low x.2.1 6, low x.2.2 6)) := by
      generalize P.ks = ks at al hyl
      clear hD1
      induction ts generalizing ks with
      | nil =>
        cases ks with
        | nil => exact ⟨[], .nil, rfl, fun i kv x h => by cases h⟩
        | cons x r => cases hyl
      | cons t r ih =>
        cases ks with
        | nil => cases hyl
        | cons x ks =>
          obtain ⟨⟨t', t2, a, b, ez, h1, h2, h3, h4⟩, al2⟩ := Al.uncons al
          cases ez
          obtain ⟨kv2, p2, k2⟩ := ih ks al2 (by simpa using hyl)
          refine ⟨(.inr x.1, .ref t2) :: kv2, .cons (SqT.of h1) p2, by simpa using k2.1, fun i kv y g1 g2 => ?_⟩
          cases i with
          | zero =>
            cases g1
            cases g2
            exact ⟨rfl, t2, a, b, rfl, h2, h3, h4⟩
          | succ i => exact k2.2 i kv y g1 g2
    have nd2 : (kv2.map (·.1)).Nodup := hkv.nd (prOf_kn g)
    refine ⟨D, ts, kv2, rfl, SqL.of hD1, pk, fun p hp => ?_⟩
    rw [merge_nd nd2]
    have e2 := Same.upd (o := .dK kv2) hp
    have hp2 : (upd H1 p (.dK kv2)) p = some (.dK kv2) := upd_same
    have hkv2 := hkv.mono e2
    generalize (upd H1 p (.dK kv2)) = H2 at e2 hp2 hkv2 ⊢
    have e02 := e1.trans e2
    refine ⟨_, rfl, d, _, rfl, .inl ⟨_, .inr "make", .inl (e02 _ _ hd), rfl, rfl⟩, fun xa dx hxa hdx hne => ?_⟩
    refine mk_shI (by decide) (by decide +kernel) hxa hdx hne fun H3 e3 z3 => ⟨rfl, ?_⟩
    have e03 := e02.trans e3
    refine ⟨_, rfl, d, _, rfl, .inl ⟨_, .inr "general", .inl (e03 _ _ hd), rfl, rfl⟩, fun xb db hxb hdb hneb => ?_⟩
    refine mk_shI (by decide) (by decide +kernel) hxb hdb hneb fun H4 e4 z4 => ⟨rfl, ?_⟩
    have e04 := e03.trans e4
    have e24 := e3.trans e4
    obtain ⟨gm, gg, gk⟩ := prOf_ok g
    refine ⟨_, rfl, mk_prices (hT.ext e04) (.inl (z3.mono e4)) gm (.inl z4) gg (ks := P.ks.map fun (x : Str × Int × Int) => ((x.1, low x.2.1 6, low x.2.2 6) : Str × Q2)) ⟨kv2, e24 _ _ hp2, hkv2.1, fun i kv x g1 g2 => ?_⟩ (prOf_kn g) fun w H5 g5 hw nw => k w H5 ((Gr.of e04).trans g5) hw fun a z => e04.free (nw a z)⟩
    obtain ⟨q1, t, a, b, q2, q3, q4, q5⟩ := (hkv2.mono e24).2 i kv x g1 g2
    exact ⟨q1, t, a, b, q2, q3, .inl q4, .inl q5⟩
end
end Ps

/-! The laws' own plans of books: drawn, made. -/
namespace Ps
open PySem PySem.Spec PyProof.Rows PySem.W L2

inductive PAf where
  | ever
  | doubt (q : Int × Int)
  | look (i : Int)
  deriving DecidableEq
structure Plan where
  tries : Option Int
  told : Int
  factor : Int × Int
  equal : Bool
  sliding : Bool
  after : PAf
  keep : Bool
  deriving DecidableEq
def factors : List (Int × Int) := [(1, 1), (0, 1), (2, 1), (1, 2)]
def doubts : List (Int × Int) := [(1, 1), (2, 1), (1, 2), (10, 1), (3, 2)]
def tolds : List Int := [6, 9, 12, 18, 3, 15, 24]
def PAfOk : PAf → Prop
  | .ever => True
  | .doubt q => q ∈ doubts
  | .look i => 1 ≤ i ∧ i ≤ 9
structure PlOk (p : Plan) : Prop where
  tr : ∀ i, p.tries = some i → 0 ≤ i ∧ i ≤ 6
  tl : p.told ∈ tolds
  fc : p.factor ∈ factors
  af : PAfOk p.after
def afOf : PAf → Af
  | .ever => .ever
  | .doubt q => .doubt (low q.1 q.2)
  | .look i => .look i
def bkOfPl (p : Plan) : Bk := ⟨p.tries, low p.told 6, low p.factor.1 p.factor.2, p.equal, p.sliding, afOf p.after, p.keep⟩
theorem sz_small {a b : Int} (hb : b ≠ 0) (h1 : a.natAbs < 100) (h2 : b.natAbs < 100) : Sz 100 (low a b) := Sz.of_low hb (lt_up (m := 10) (by omega) (by decide)) (lt_up (m := 10) (by omega) (by decide))
theorem doubt_ok {q : Int × Int} (h : q ∈ doubts) : q.2 ≠ 0 ∧ q.1.natAbs < 100 ∧ q.2.natAbs < 100 ∧ 0 < (low q.1 q.2).1 := by
  simp only [doubts, List.mem_cons, List.not_mem_nil, or_false] at h
  rcases h with rfl | rfl | rfl | rfl | rfl <;> decide +kernel
theorem factor_ok {q : Int × Int} (h : q ∈ factors) : q.2 ≠ 0 ∧ q.1.natAbs < 100 ∧ q.2.natAbs < 100 ∧ 0 ≤ (low q.1 q.2).1 := by
  simp only [factors, List.mem_cons, List.not_mem_nil, or_false] at h
  rcases h with rfl | rfl | rfl | rfl <;> decide +kernel
theorem told_ok {n : Int} (h : n ∈ tolds) : n.natAbs < 100 ∧ 0 < (low n 6).1 := by
  simp only [tolds, List.mem_cons, List.not_mem_nil, or_false] at h
  rcases h with rfl | rfl | rfl | rfl | rfl | rfl | rfl <;> decide +kernel
theorem PAfOk.of {a : PAf} (h : PAfOk a) : AfOk (afOf a) := by
  cases a with
  | ever => trivial
  | doubt q =>
    obtain ⟨h1, h2, h3, h4⟩ := doubt_ok h
    exact ⟨Lw.of h1, sz_small h1 h2 h3, h4⟩
  | look i => exact h
theorem PlOk.bk {p : Plan} (h : PlOk p) : BkOk (bkOfPl p) := by
  obtain ⟨f1, f2, f3, f4⟩ := factor_ok h.fc
  obtain ⟨t1, t2⟩ := told_ok h.tl
  exact ⟨h.tr, Lw.of (by decide), sz_small (by decide) t1 (by decide), t2, Lw.of f1, sz_small f1 f2 f3, f4, h.af.of⟩
def PAfV (H : Hp) (v : V) : PAf → Prop
  | .ever => ∃ t, v = .ref t ∧ H t = some (.tup [.str "ever"])
  | .doubt q => ∃ t u, v = .ref t ∧ H t = some (.tup [.str "doubt", .ref u]) ∧ H u = some (.tup [.int q.1, .int q.2])
  | .look i => ∃ t, v = .ref t ∧ H t = some (.tup [.str "look", .int i])
/-- tuples stay -/
def Tp (H H' : Hp) : Prop := ∀ a xs, H a = some (.tup xs) → H' a = some (.tup xs)
theorem Tp.of {H H' : Hp} (e : Same H H') : Tp H H' := fun a xs h => e a _ h
theorem Tp.trans {H H1 H2 : Hp} (e : Tp H H1) (e' : Tp H1 H2) : Tp H H2 := fun a xs h => e' a xs (e a xs h)
theorem Tp.keep {H H' : Hp} {p : Addr} {o : HO} (k : Keep p H H') (hp : H p = some o) (hn : ∀ xs, o ≠ .tup xs) : Tp H H' := fun a xs h => k a (fun z => by rw [z, hp] at h; exact hn _ (Option.some.inj h)) _ h
theorem Tp.upd {H : Hp} {p : Addr} {o u : HO} (hp : H p = some o) (hn : ∀ xs, o ≠ .tup xs) : Tp H (upd H p u) := fun a xs h => by rw [upd_ne (fun z => by rw [z, hp] at h; exact hn _ (Option.some.inj h))]; exact h
theorem PAfV.mono {H H' : Hp} {v : V} {a : PAf} (e : Tp H H') (h : PAfV H v a) : PAfV H' v a := by
  cases a with
  | ever => obtain ⟨t, h1, h2⟩ := h; exact ⟨t, h1, e _ _ h2⟩
  | doubt q => obtain ⟨t, u, h1, h2, h3⟩ := h; exact ⟨t, u, h1, e _ _ h2, e _ _ h3⟩
  | look i => obtain ⟨t, h1, h2⟩ := h; exact ⟨t, h1, e _ _ h2⟩
/-- the plan's dict -/
def plL (p : Plan) (vf va : V) : List (Key × V) := stL (trV p.tries) (.int p.told) vf (.bl p.equal) (.bl p.sliding) va (.bl p.keep)
def FcV (H : Hp) (v : V) (q : Int × Int) : Prop := ∃ t, v = .ref t ∧ H t = some (.tup [.int q.1, .int q.2])
theorem FcV.mono {H H' : Hp} {v : V} {q : Int × Int} (e : Tp H H') (h : FcV H v q) : FcV H' v q := by obtain ⟨t, h1, h2⟩ := h; exact ⟨t, h1, e _ _ h2⟩
structure PlAt (H : Hp) (a : Addr) (p : Plan) (vf va : V) : Prop where
  d : H a = some (.dK (plL p vf va))
  f : FcV H vf p.factor
  a : PAfV H va p.after
theorem PlAt.mono {H H' : Hp} {a : Addr} {p : Plan} {vf va : V} (e : Same H H') (h : PlAt H a p vf va) : PlAt H' a p vf va := ⟨e _ _ h.d, h.f.mono (Tp.of e), h.a.mono (Tp.of e)⟩
theorem PlAt.keep {H H' : Hp} {a x : Addr} {p : Plan} {vf va : V} {o : List V} (k : Keep x H H') (hx : H x = some (.lst o)) (h : PlAt H a p vf va) : PlAt H' a p vf va :=
  ⟨k a (fun z => by have := h.d; rw [z, hx] at this; cases this) _ h.d, h.f.mono (Tp.keep k hx (fun _ z => nomatch z)), h.a.mono (Tp.keep k hx (fun _ z => nomatch z))⟩
def spLAfter : Sp := fun vs H Q _ => ∃ (p q : Addr) (ms : List Int) (i : Nat), vs = [.ref p] ∧ Pool H p q ms i ∧ i ≤ 1000 ∧ ∀ v H' a j, Keep p H H' → Pool H' p q ms j → j ≤ i + 2 → PAfV H' v a → PAfOk a → Q v H'
theorem pick5 {H : Hp} {t1 t2 t3 t4 t5 : Addr} {r : Int} (r0 : 0 ≤ r) (r1 : r < 5) (h1 : H t1 = some (.tup [.int 1, .int 1])) (h2 : H t2 = some (.tup [.int 2, .int 1])) (h3 : H t3 = some (.tup [.int 1, .int 2])) (h4 : H t4 = some (.tup [.int 10, .int 1])) (h5 : H t5 = some (.tup [.int 3, .int 2])) :
    ∃ u q, atI [V.ref t1, V.ref t2, V.ref t3, V.ref t4, V.ref t5] r = some (.ref u) ∧ H u = some (.tup [.int q.1, .int q.2]) ∧ q ∈ doubts := by
  rcases (show r = 0 ∨ r = 1 ∨ r = 2 ∨ r = 3 ∨ r = 4 by omega) with rfl | rfl | rfl | rfl | rfl
  · exact ⟨t1, (1, 1), rfl, h1, by decide⟩
  · exact ⟨t2, (2, 1), rfl, h2, by decide⟩
  · exact ⟨t3, (1, 2), rfl, h3, by decide⟩
  · exact ⟨t4, (10, 1), rfl, h4, by decide⟩
  · exact ⟨t5, (3, 2), rfl, h5, by decide⟩
theorem pick4 {H : Hp} {t1 t2 t3 t4 : Addr} {r : Int} (r0 : 0 ≤ r) (r1 : r < 4) (h1 : H t1 = some (.tup [.int 1, .int 1])) (h2 : H t2 = some (.tup [.int 0, .int 1])) (h3 : H t3 = some (.tup [.int 2, .int 1])) (h4 : H t4 = some (.tup [.int 1, .int 2])) :
    ∃ u q, atI [V.ref t1, V.ref t2, V.ref t3, V.ref t4] r = some (.ref u) ∧ H u = some (.tup [.int q.1, .int q.2]) ∧ q ∈ factors := by
  rcases (show r = 0 ∨ r = 1 ∨ r = 2 ∨ r = 3 by omega) with rfl | rfl | rfl | rfl
  · exact ⟨t1, (1, 1), rfl, h1, by decide⟩
  · exact ⟨t2, (0, 1), rfl, h2, by decide⟩
  · exact ⟨t3, (2, 1), rfl, h3, by decide⟩
  · exact ⟨t4, (1, 2), rfl, h4, by decide⟩
theorem pick_told {r : Int} (r0 : 0 ≤ r) (r1 : r < 7) : ∃ n, atI [V.int 6, .int 9, .int 12, .int 18, .int 3, .int 15, .int 24] r = some (.int n) ∧ n ∈ tolds := by
  rcases (show r = 0 ∨ r = 1 ∨ r = 2 ∨ r = 3 ∨ r = 4 ∨ r = 5 ∨ r = 6 by omega) with rfl | rfl | rfl | rfl | rfl | rfl | rfl <;> exact ⟨_, rfl, by decide⟩
theorem pick_try {r : Int} (r0 : 0 ≤ r) (r1 : r < 7) : ∃ o : Option Int, atI [V.non, .int 0, .int 1, .int 2, .int 3, .int 2, .int 3] r = some (trV o) ∧ ∀ i, o = some i → 0 ≤ i ∧ i ≤ 3 := by
  rcases (show r = 0 ∨ r = 1 ∨ r = 2 ∨ r = 3 ∨ r = 4 ∨ r = 5 ∨ r = 6 by omega) with rfl | rfl | rfl | rfl | rfl | rfl | rfl
  · exact ⟨none, rfl, by intro i z; cases z⟩
  · exact ⟨some 0, rfl, by intro i z; cases z; decide⟩
  · exact ⟨some 1, rfl, by intro i z; cases z; decide⟩
  · exact ⟨some 2, rfl, by intro i z; cases z; decide⟩
  · exact ⟨some 3, rfl, by intro i z; cases z; decide⟩
  · exact ⟨some 2, rfl, by intro i z; cases z; decide⟩
  · exact ⟨some 3, rfl, by intro i z; cases z; decide⟩
theorem Pool.mono {H H' : Hp} {p q : Addr} {ms : List Int} {i : Nat} (e : Same H H') (h : Pool H p q ms i) : Pool H' p q ms i := ⟨e _ _ h.at_, e _ _ h.nums, h.len, h.few⟩
section
variable {Z : Cz} {f C CB : Addr} {fd : FuncData}
abbrev CDraw (Z : Cz) : Prop := Cal Z CX0 1 "_law_draw" ["_law_pool_here", "_law_many"] [] spDraw
end
end Ps

/-! The laws' own plans of books: a plan is drawn; a book is made of it. -/
namespace Ps
open PySem PySem.Spec PyProof.Rows PySem.W L2

def spLPlan : Sp := fun vs H Q _ => ∃ (p q : Addr) (ms : List Int) (i : Nat) (m : Int), vs = [.ref p, .int m] ∧ Pool H p q ms i ∧ i ≤ 900 ∧ 0 ≤ m ∧ m ≤ 6 ∧
  ∀ a H' pl vf va j, Keep p H H' → H a = none → Pool H' p q ms j → j ≤ i + 10 → PlAt H' a pl vf va → PlOk pl → Q (.ref a) H'
def spMAfter (C : Addr) : Sp := fun vs H Q _ => ∃ v a, vs = [v] ∧ PAfV H v a ∧ PAfOk a ∧ ∀ w H', Same H H' → AfV C H' w (afOf a) → Q w H'
def spMBook (C CB : Addr) : Sp := fun vs H Q _ => ∃ a pl vf va, vs = [.ref a] ∧ PlAt H a pl vf va ∧ PlOk pl ∧ ∀ v H', Same H H' → BkAt C CB H' v (bkOfPl pl) → Q v H'
section
variable {Z : Cz} {f C CB : Addr} {fd : FuncData}
end
end Ps

/-! The laws' own plans of books: a book is made of a plan. -/
namespace Ps
open PySem PySem.Spec PyProof.Rows PySem.W L2
section
variable {Z : Cz} {f C CB : Addr} {fd : FuncData}
abbrev CMAfter (Z : Cz) (C : Addr) : Prop := Cal Z CX0 4 "_law_made_after" ["_law_ending"] [] (spMAfter C)
theorem pl_get {H : Hp} {a : Addr} {p : Plan} {vf va : V} (h : PlAt H a p vf va) (x : Str) {v : V} (hv : valV (plL p vf va) (.inr x) = some v) : DGet H a (.str x) (some v) := by rw [← hv]; exact DGet.k (k := .inr x) h.d
abbrev CMBook (Z : Cz) (C CB : Addr) : Prop := Cal Z CX0 12 "_law_made_book" ["_law_plan_here"] [] (spMBook C CB)
end
end Ps

/-! The laws' own states: modes, answers. -/
namespace Ps
open PySem PySem.Spec PyProof.Rows PySem.W L2 LamX

def PAf.z : PAf → Str
  | .ever => "ever"
  | .doubt _ => "doubt"
  | .look _ => "look"
theorem PAfV.first {H : Hp} {v : V} {a : PAf} (h : PAfV H v a) : ∃ t xs, v = .ref t ∧ H t = some (.tup (.str a.z :: xs)) := by
  cases a with
  | ever => obtain ⟨t, h1, h2⟩ := h; exact ⟨t, _, h1, h2⟩
  | doubt q => obtain ⟨t, u, h1, h2, _⟩ := h; exact ⟨t, _, h1, h2⟩
  | look i => obtain ⟨t, h1, h2⟩ := h; exact ⟨t, _, h1, h2⟩
theorem pl_looks (p : Plan) : (bkOfPl p).looks = match p.after with
    | .look i => some i
    | _ => none := by
  unfold Bk.looks bkOfPl afOf
  cases p.after <;> rfl
def spLSt (g : Bk → Bool → BSt) : Sp := fun vs H Q _ => ∃ a pl vf va k, vs = [.ref a, .bl k] ∧ PlAt H a pl vf va ∧ ∀ v H', Same H H' → StV H' v (g (bkOfPl pl) k) → Q v H'
def spLStart : Sp := fun vs H Q _ => ∃ a pl vf va, vs = [.ref a] ∧ PlAt H a pl vf va ∧ ∀ v H', Same H H' → StV H' v ((bkOfPl pl).begun false) → Q v H'
def spLAns : Sp := fun vs H Q _ => ∃ a pl vf va sv s P, vs = [.ref a, sv] ∧ PlAt H a pl vf va ∧ StV H sv s ∧ (bkOfPl pl).wf P s ∧ Q (plV ((bkOfPl pl).isOwn s)) H
section
variable {Z : Cz} {f C CB CP : Addr} {fd : FuncData} {T0 : List (Addr × Str)}
abbrev CLBegin (Z : Cz) : Prop := Cal Z CX0 2 "_law_begin" ["_law_plan_here", "_law_kept"] [] (spLSt Bk.begun)
end
end Ps

/-! The laws' own states: the value of tries, switches. -/
namespace Ps
open PySem PySem.Spec PyProof.Rows PySem.W L2 LamX

def lsum (P : PrD) (mem : List Str) : Int := (mem.map fun w => (lkD P w).1).sum
def lval (pl : Plan) (P : PrD) (mem : List Str) : Int := lsum P mem * pl.factor.2 + pl.factor.1 * P.make * (mem.length : Nat)
theorem factor_b {q : Int × Int} (h : q ∈ factors) : 0 ≤ q.1 ∧ q.1 ≤ 2 ∧ 1 ≤ q.2 ∧ q.2 ≤ 2 := by
  simp only [factors, List.mem_cons, List.not_mem_nil, or_false] at h
  rcases h with rfl | rfl | rfl | rfl <;> decide
theorem told_b {n : Int} (h : n ∈ tolds) : 3 ≤ n ∧ n ≤ 24 := by
  simp only [tolds, List.mem_cons, List.not_mem_nil, or_false] at h
  rcases h with rfl | rfl | rfl | rfl | rfl | rfl | rfl <;> decide
theorem lkD_b {P : PrD} (g : PrG P) {w : Str} (h : w ∈ P.ks.map (·.1)) : (0 < (lkD P w).1 ∧ (lkD P w).1 ≤ 60) ∧ (0 < (lkD P w).2 ∧ (lkD P w).2 ≤ 600) := g.k _ (lkD_in g h)
theorem lsum_b {P : PrD} (g : PrG P) : ∀ {mem : List Str}, (∀ w ∈ mem, w ∈ P.ks.map (·.1)) → 0 ≤ lsum P mem ∧ lsum P mem ≤ 60 * (mem.length : Nat)
  | [], _ => ⟨Int.le_refl 0, by show (0 : Int) ≤ 60 * 0; decide⟩
  | w :: r, h => by
    obtain ⟨⟨h1, h2⟩, _⟩ := lkD_b g (h w (List.mem_cons_self ..))
    obtain ⟨h3, h4⟩ := lsum_b g (mem := r) fun z hz => h z (List.mem_cons_of_mem _ hz)
    have e : lsum P (w :: r) = (lkD P w).1 + lsum P r := by
      unfold lsum
      rw [List.map_cons, List.sum_cons]
    rw [e]
    have e2 : ((w :: r).length : Int) = (r.length : Int) + 1 := by simp
    omega
theorem afOf_look (a : PAf) : (match afOf a with | .look i => some i | _ => none) = match a with | .look i => some i | _ => none := by cases a <;> rfl
/-- the value as a fraction -/
theorem val_fr {pl : Plan} {P : PrD} {n : Int} {mem : List Str} (hp : PlOk pl) (g : PrG P) (hm : ∀ w ∈ mem, w ∈ P.ks.map (·.1)) (hn : 0 < n) : Frc ((bkOfPl pl).val (prOf P) n mem) (lsum P mem * pl.factor.2 + pl.factor.1 * P.make * n) (6 * n * pl.factor.2) := by
  obtain ⟨f0, f1, f2, f3⟩ := factor_b hp.fc
  have h1 : Frc ((mem.map fun w => (lkP (prOf P) w).1).foldl gAdd (0, 1)) (lsum P mem) 6 := by
    have s := Frc.sum (u := 6) (by decide) (mem.map fun w => (lkP (prOf P) w).1) (mem.map fun w => (lkD P w).1) (by simp) (fun i q t hq ht => by
      rw [List.getElem?_map] at hq ht
      cases e : mem[i]? with
      | none => rw [e] at hq; cases hq
      | some w =>
        rw [e] at hq ht
        cases hq
        cases ht
        show Frc (lkP (prOf P) w).1 (lkD P w).1 6
        rw [lk_both g (hm w (List.mem_of_getElem? e))]
        exact Frc.low (by decide)) (0, 1) 0 ⟨by decide, by decide, by decide⟩
    rw [Int.zero_add] at s
    exact s
  have h2 := h1.by_ (Frc.int n) hn
  have h3 : Frc (gMul (low pl.factor.1 pl.factor.2) (low P.make 6)) (pl.factor.1 * P.make) (pl.factor.2 * 6) := (Frc.low (by omega)).mul (Frc.low (by decide))
  have h4 := h2.add h3
  have e1 : lsum P mem * 1 * (pl.factor.2 * 6) + pl.factor.1 * P.make * (6 * n) = 6 * (lsum P mem * pl.factor.2 + pl.factor.1 * P.make * n) := by grind
  have e2 : 6 * n * (pl.factor.2 * 6) = 6 * (6 * n * pl.factor.2) := by grind
  rw [e1, e2] at h4
  exact h4.unscale (by decide) (Int.mul_pos (by omega) (by omega))
theorem switch_eq {pl : Plan} {P : PrD} {n : Int} {mem : List Str} (hp : PlOk pl) (g : PrG P) (hm : ∀ w ∈ mem, w ∈ P.ks.map (·.1)) (hn : 0 < n) (hl : (mem.length : Int) = n) :
    (bkOfPl pl).switched (prOf P) n mem = (decide (pl.told * n * pl.factor.2 < lval pl P mem) || (pl.equal && decide (pl.told * n * pl.factor.2 = lval pl P mem))) := by
  have hv := val_fr hp g hm hn
  have ht : Frc (low pl.told 6) pl.told 6 := Frc.low (by decide)
  obtain ⟨f0, f1, f2, f3⟩ := factor_b hp.fc
  have ev : lval pl P mem = lsum P mem * pl.factor.2 + pl.factor.1 * P.make * n := by
    unfold lval
    rw [hl]
  have a1 : (gMin (low pl.told 6) ((bkOfPl pl).val (prOf P) n mem) < 0) ↔ pl.told * n * pl.factor.2 < lval pl P mem := by
    rw [ht.lt hv, ev]
    generalize lsum P mem * pl.factor.2 + pl.factor.1 * P.make * n = V
    have e : pl.told * (6 * n * pl.factor.2) = 6 * (pl.told * n * pl.factor.2) := by grind
    rw [e]
    omega
  have a2 : (gMin (low pl.told 6) ((bkOfPl pl).val (prOf P) n mem) = 0) ↔ pl.told * n * pl.factor.2 = lval pl P mem := by
    rw [ht.eq hv, ev]
    generalize lsum P mem * pl.factor.2 + pl.factor.1 * P.make * n = V
    have e : pl.told * (6 * n * pl.factor.2) = 6 * (pl.told * n * pl.factor.2) := by grind
    rw [e]
    omega
  unfold Bk.switched
  rw [show (bkOfPl pl).told = low pl.told 6 from rfl, show (bkOfPl pl).equal = pl.equal from rfl, decide_eq_decide.mpr a1, decide_eq_decide.mpr a2]
def spLVal : Sp := fun vs H Q _ => ∃ a pl vf va v P l mem, vs = [.ref a, v, .ref l] ∧ PlAt H a pl vf va ∧ PlOk pl ∧ PrAt H v P ∧ PrG P ∧ H l = some (.lst (mem.map V.str)) ∧ (∀ w ∈ mem, w ∈ P.ks.map (·.1)) ∧ mem.length ≤ 10 ∧ ∀ H', Same H H' → Q (.int (lval pl P mem)) H'
def spLSw : Sp := fun vs H Q _ => ∃ a pl vf va v P l mem n, vs = [.ref a, v, .ref l] ∧ PlAt H a pl vf va ∧ PlOk pl ∧ PrAt H v P ∧ PrG P ∧ H l = some (.lst (mem.map V.str)) ∧ (∀ w ∈ mem, w ∈ P.ks.map (·.1)) ∧ 0 < n ∧ n ≤ 6 ∧ (mem.length : Int) = n ∧ ∀ H', Same H H' → Q (.bl ((bkOfPl pl).switched (prOf P) n mem)) H'
theorem PrAt.mono {H H' : Hp} {v : V} {P : PrD} (e : Same H H') (h : PrAt H v P) : PrAt H' v P := by
  obtain ⟨d, k, kvs, rfl, h1, h2, h3⟩ := h
  exact ⟨d, k, kvs, rfl, e _ _ h1, e _ _ h2, h3.1, fun i kv x a b => by
    obtain ⟨q1, t, q2, q3⟩ := h3.2 i kv x a b
    exact ⟨q1, t, q2, e _ _ q3⟩⟩
/-- a kind of the law's prices -/
theorem PrAt.kind {H : Hp} {v : V} {P : PrD} (h : PrAt H v P) (g : PrG P) {w : Str} (hw : w ∈ P.ks.map (·.1)) : ∃ d k t, v = .ref d ∧ DGet H d (.str "kinds") (some (.ref k)) ∧ DGet H k (.str w) (some (.ref t)) ∧ H t = some (.tup [.int (lkD P w).1, .int (lkD P w).2]) := by
  obtain ⟨d, k, kvs, rfl, h1, h2, h3⟩ := h
  obtain ⟨i, hi⟩ := List.getElem?_of_mem (lkD_in g hw)
  have hi2 := (List.getElem?_eq_some_iff.mp hi).1
  have hi3 : i < kvs.length := by have := h3.1; omega
  obtain ⟨e1, t, e2, ht⟩ := h3.2 i kvs[i] _ (List.getElem?_eq_getElem hi3) hi
  have nd : (kvs.map (·.1)).Nodup := by
    rw [h3.keys]
    have e : (P.ks.map fun x => (.inr x.1 : Key)) = (P.ks.map (·.1)).map fun w => (.inr w : Key) := by rw [List.map_map]; rfl
    rw [e]
    exact List.Pairwise.map _ (fun a b hab z => hab (Sum.inr.inj z)) g.w.nd
  refine ⟨d, k, t, rfl, .inl ⟨_, .inr "kinds", .inl h1, rfl, rfl⟩, .inl ⟨kvs, .inr w, .inl h2, rfl, (valV_nd nd (n := i) ?_).symm⟩, ht⟩
  rw [List.getElem?_eq_getElem hi3, ← e2]
  exact congrArg some (Prod.ext e1 rfl)
theorem PrAt.mk_ {H : Hp} {v : V} {P : PrD} (h : PrAt H v P) : ∃ d, v = .ref d ∧ DGet H d (.str "make") (some (.int P.make)) ∧ DGet H d (.str "general") (some (.int P.gen)) := by
  obtain ⟨d, k, kvs, rfl, h1, h2, h3⟩ := h
  exact ⟨d, rfl, .inl ⟨_, .inr "make", .inl h1, rfl, rfl⟩, .inl ⟨_, .inr "general", .inl h1, rfl, rfl⟩⟩
section
variable {Z : Cz} {f C CB CP : Addr} {fd : FuncData} {T0 : List (Addr × Str)}
end
end Ps

/-! The laws' own states: behind an own plan, behind the general one, steps. -/
namespace Ps
open PySem PySem.Spec PyProof.Rows PySem.W L2 LamX

def spLBO (T : List (Addr × Str)) : Sp := fun vs H Q _ => ∃ a pl vf va v P sv kp mem w, vs = [.ref a, v, sv, .str w] ∧ PlAt H a pl vf va ∧ PlOk pl ∧ PrAt H v P ∧ PrG P ∧ StV H sv (.own kp mem) ∧ (bkOfPl pl).wf (prOf P) (.own kp mem) ∧ w ∈ P.ks.map (·.1) ∧ Tabs T H ∧
  ∀ u H', Grow T H H' → StV H' u ((bkOfPl pl).behindTry (prOf P) kp mem w) → Q u H'
def spLBG : Sp := fun vs H Q _ => ∃ a pl vf va v P sv kp c w, vs = [.ref a, v, sv, .str w] ∧ PlAt H a pl vf va ∧ PlOk pl ∧ PrAt H v P ∧ PrG P ∧ StV H sv (.gen kp c) ∧ (bkOfPl pl).wf (prOf P) (.gen kp c) ∧ w ∈ P.ks.map (·.1) ∧
  ∀ u H', Same H H' → StV H' u ((bkOfPl pl).behindGen (prOf P) c w) → Q u H'
/-- what an ask is paid, in sixths -/
def lpay (pl : Plan) (P : PrD) (s : BSt) (w : Str) : Int := if (bkOfPl pl).isOwn s then P.make + (lkD P w).1 else if s.kept then (lkD P w).2 else (lkD P w).2 + P.gen
def spLStep (T : List (Addr × Str)) : Sp := fun vs H Q _ => ∃ a pl vf va v P sv s w, vs = [.ref a, v, sv, .str w] ∧ PlAt H a pl vf va ∧ PlOk pl ∧ PrAt H v P ∧ PrG P ∧ StV H sv s ∧ (bkOfPl pl).wf (prOf P) s ∧ w ∈ P.ks.map (·.1) ∧ Tabs T H ∧
  ∀ l st H', Grow T H H' → H l = none → H' l = some (.lst [plV ((bkOfPl pl).isOwn s), .int (lpay pl P s w), st]) → StV H' st ((bkOfPl pl).next (prOf P) s w) → Q (.ref l) H'
theorem PlAt.gr {T : List (Addr × Str)} {H H' : Hp} {a : Addr} {p : Plan} {vf va : V} (g : Gr T none H H') (h : PlAt H a p vf va) : PlAt H' a p vf va := ⟨g.at h.d, h.f.mono fun b xs e => g.at e, h.a.mono fun b xs e => g.at e⟩
theorem PrAt.gr {T : List (Addr × Str)} {H H' : Hp} {v : V} {P : PrD} (g : Gr T none H H') (h : PrAt H v P) : PrAt H' v P := by
  obtain ⟨d, k, kvs, rfl, h1, h2, h3⟩ := h
  exact ⟨d, k, kvs, rfl, g.at h1, g.at h2, h3.1, fun i kv x a b => by
    obtain ⟨q1, t, q2, q3⟩ := h3.2 i kv x a b
    exact ⟨q1, t, q2, g.at q3⟩⟩
theorem low6_add (a b : Int) : gAdd (low a 6) (low b 6) = low (a + b) 6 := by
  unfold gAdd
  rw [low_add (by decide) (by decide)]
  rw [show a * 6 + b * 6 = 6 * (a + b) by omega]
  exact low_scale 6 (a + b) 6 (by decide) (by decide)
theorem cost_eq {pl : Plan} {P : PrD} (g : PrG P) (s : BSt) {w : Str} (h : w ∈ P.ks.map (·.1)) : (bkOfPl pl).cost (prOf P) s w = low (lpay pl P s w) 6 := by
  unfold Bk.cost lpay
  rw [lk_both g h]
  split
  · exact low6_add _ _
  · split
    · rfl
    · exact low6_add _ _
/-- the doubt -/
theorem doubt_eq {pl : Plan} {P : PrD} (g : PrG P) {q : Int × Int} (ha : pl.after = .doubt q) (hq : 0 < q.2) {w : Str} (h : w ∈ P.ks.map (·.1)) : (bkOfPl pl).doubted (prOf P) w = decide (q.1 * pl.told < (lkD P w).2 * q.2) := by
  have ea : (bkOfPl pl).after = .doubt (low q.1 q.2) := by
    show afOf pl.after = _
    rw [ha]
    rfl
  unfold Bk.doubted
  rw [ea]
  simp only
  rw [lk_both g h]
  have f1 : Frc (low (lkD P w).2 6) (lkD P w).2 6 := Frc.low (by decide)
  have f2 : Frc (gMul (low q.1 q.2) (low pl.told 6)) (q.1 * pl.told) (q.2 * 6) := (Frc.low hq).mul (Frc.low (by decide))
  refine decide_eq_decide.mpr ?_
  rw [show (bkOfPl pl).told = low pl.told 6 from rfl]
  rw [f1.gt f2]
  have e1 : (lkD P w).2 * (q.2 * 6) = 6 * ((lkD P w).2 * q.2) := by grind
  rw [e1]
  generalize (lkD P w).2 * q.2 = A
  generalize q.1 * pl.told = B
  omega
/-- the look -/
theorem look_eq {pl : Plan} {P : PrD} (hp : PlOk pl) (g : PrG P) (kp : Bool) {w : Str} (h : w ∈ P.ks.map (·.1)) : (bkOfPl pl).behindLook (prOf P) kp w = if (lkD P w).1 * pl.factor.2 + pl.factor.1 * P.make < pl.told * pl.factor.2 then (bkOfPl pl).ended kp else (bkOfPl pl).genSt kp := by
  obtain ⟨f0, f1, f2, f3⟩ := factor_b hp.fc
  unfold Bk.behindLook
  rw [lk_both g h]
  have h1 : Frc (low (lkD P w).1 6) (lkD P w).1 6 := Frc.low (by decide)
  have h3 : Frc (gMul (low pl.factor.1 pl.factor.2) (low P.make 6)) (pl.factor.1 * P.make) (pl.factor.2 * 6) := (Frc.low (by omega)).mul (Frc.low (by decide))
  have h4 := h1.add h3
  have ht : Frc (low pl.told 6) pl.told 6 := Frc.low (by decide)
  have e := h4.lt ht
  have p1 : 0 < pl.factor.2 := by omega
  have c : (gMin (gAdd (low (lkD P w).1 6) (gMul (bkOfPl pl).factor (prOf P).md)) (bkOfPl pl).told < 0) ↔ ((lkD P w).1 * pl.factor.2 + pl.factor.1 * P.make < pl.told * pl.factor.2) := by
    refine e.trans ?_
    have e1 : ((lkD P w).1 * (pl.factor.2 * 6) + pl.factor.1 * P.make * 6) * 6 = 36 * ((lkD P w).1 * pl.factor.2 + pl.factor.1 * P.make) := by grind
    have e2 : pl.told * (6 * (pl.factor.2 * 6)) = 36 * (pl.told * pl.factor.2) := by grind
    rw [e1, e2]
    generalize (lkD P w).1 * pl.factor.2 + pl.factor.1 * P.make = A
    generalize pl.told * pl.factor.2 = B
    omega
  by_cases hc : (lkD P w).1 * pl.factor.2 + pl.factor.1 * P.make < pl.told * pl.factor.2
  · rw [if_pos hc, if_pos (c.mpr hc)]
  · rw [if_neg hc, if_neg fun z => hc (c.mp z)]
section
variable {Z : Cz} {f C CB CP : Addr} {fd : FuncData} {T0 : List (Addr × Str)}
abbrev CLEnter (Z : Cz) : Prop := Cal Z CX0 1 "_law_enter" ["_law_plan_here", "_law_kept"] [] (spLSt Bk.genSt)
abbrev CLEnded (Z : Cz) : Prop := Cal Z CX0 3 "_law_ended" ["_law_plan_here", "_law_kept"] [] (spLSt Bk.ended)
end
end Ps

/-! Dicts whose keys are nested tuples. -/
namespace Ps
open PySem PySem.Spec PyProof.Rows PySem.W L2 LamX

mutual
/-- the value is the key -/
inductive NkV (H : Hp) : NestedKey → V → Prop
  | non : NkV H .none .non
  | bl {i : Int} (b : Bool) (e : i = if b = true then 1 else 0) : NkV H (.num i) (.bl b)
  | int (i : Int) : NkV H (.num i) (.int i)
  | str (z : Str) : NkV H (.text z) (.str z)
  | tup {a : Addr} {xs : List V} {ks : List NestedKey} (h : H a = some (.tup xs)) (al : NkAll H ks xs) : NkV H (.tup ks) (.ref a)
inductive NkAll (H : Hp) : List NestedKey → List V → Prop
  | nil : NkAll H [] []
  | cons {k : NestedKey} {v : V} {ks : List NestedKey} {vs : List V} (h : NkV H k v) (t : NkAll H ks vs) : NkAll H (k :: ks) (v :: vs)
end
mutual
theorem NkV.is {P : Program} {w : World} {H : Hp} {h : Heap} (ok : HOk P w H h) : ∀ {k : NestedKey} {v : V} {u : Value}, NkV H k v → RelV v u → NestedIs h k u
  | _, _, u, .non, r => by
    cases (show u = Value.none from r)
    exact .none
  | _, _, u, .bl b e, r => by
    cases (show u = Value.bool b from r)
    exact .bool e
  | _, _, u, .int i, r => by
    obtain ⟨t, e⟩ := (show ∃ t, u = Value.int i t from r)
    subst e
    exact .int i t
  | _, _, u, .str z, r => by
    obtain ⟨t, e⟩ := (show ∃ t, u = Value.str z t from r)
    subst e
    exact .text z t
  | _, _, u, .tup (a := a) (xs := xs) (ks := ks) e al, r => by
    cases (show u = Value.ref a from r)
    obtain ⟨_, its, rv, o, h1, h2, n, h3⟩ := (show ObjOk P w H h a (.tup xs) from ok a _ e)
    exact .tup h1 h2 h3 (by simpa using NkAll.is ok al rv)
theorem NkAll.is {P : Program} {w : World} {H : Hp} {h : Heap} (ok : HOk P w H h) : ∀ {ks : List NestedKey} {vs : List V} {us : List Value}, NkAll H ks vs → Vals vs us → NestedAll h ks us
  | _, _, _, .nil, r => by
    cases r
    exact .nil
  | _, _, _, .cons hv t, r => by
    cases r with
    | cons r1 r2 => exact .cons (NkV.is ok hv r1) (NkAll.is ok t r2)
end
mutual
theorem NkV.mono {H H' : Hp} (e : ∀ a xs, H a = some (.tup xs) → H' a = some (.tup xs)) : ∀ {k : NestedKey} {v : V}, NkV H k v → NkV H' k v
  | _, _, .non => .non
  | _, _, .bl b q => .bl b q
  | _, _, .int i => .int i
  | _, _, .str z => .str z
  | _, _, .tup h al => .tup (e _ _ h) (NkAll.mono e al)
theorem NkAll.mono {H H' : Hp} (e : ∀ a xs, H a = some (.tup xs) → H' a = some (.tup xs)) : ∀ {ks : List NestedKey} {vs : List V}, NkAll H ks vs → NkAll H' ks vs
  | _, _, .nil => .nil
  | _, _, .cons h t => .cons (NkV.mono e h) (NkAll.mono e t)
end
/-! ### the object -/
abbrev NkE := NestedKey × Addr × V
abbrev NkR : List NkE → List (NestedKey × Addr × Value) → Prop := Paired fun p q => p.1 = q.1 ∧ p.2.1 = q.2.1 ∧ RelV p.2.2 q.2.2
def NkP (P : Program) (w : World) (d : Addr) (kvs : List NkE) (h : Heap) : Prop := kvs.length ≤ sizeLine ∧ (d == sysModules) = false ∧ ∃ xs, NkR kvs xs ∧ ∃ o es ep, h.get? d = some o ∧ o.ExactDict ∧ o.data = .dict es ep ∧ es.toList = xs.map (entryOfKey (nestedKind P w)) ∧ (xs.map (·.1)).Nodup
def NkO (P : Program) (w : World) (d : Addr) (kvs : List NkE) : HO := .ext (NkP P w d kvs)
theorem nkO_ok {P : Program} {w : World} {H : Hp} {h : Heap} {d : Addr} {kvs : List NkE} (p : NkP P w d kvs h) : ObjOk P w H h d (NkO P w d kvs) := by
  obtain ⟨z, hd, xs, r, o, es, ep, h1, h2⟩ := id p
  refine ⟨p, ⟨o, h1⟩, fun h1 h2 q k => ?_⟩
  obtain ⟨z, hd, xs, r, o, es, ep, h1, h2⟩ := q
  exact ⟨z, hd, xs, r, o, es, ep, k _ h1, h2⟩
/-- at d stands a dict with these keys, their tuples, and values -/
structure NkD (P : Program) (w : World) (H : Hp) (d : Addr) (kvs : List NkE) : Prop where
  o : H d = some (NkO P w d kvs)
  k : ∀ p ∈ kvs, NkV H p.1 (.ref p.2.1) ∧ p.1.depth ≤ 8
def valN (kvs : List NkE) (k : NestedKey) : Option V := (kvs.find? fun x => decide (x.1 = k)).map (·.2.2)
theorem valN_rel {kvs : List NkE} {xs : List (NestedKey × Addr × Value)} (r : NkR kvs xs) (k : NestedKey) : RelO (valN kvs k) ((atKey xs k).map (·.2)) := by
  induction r with
  | nil => exact True.intro
  | @cons p q ps qs h t ih =>
    obtain ⟨h1, h2, h3⟩ := h
    by_cases e : q.1 = k
    · have e' : p.1 = k := h1.trans e
      have e1 : valN (p :: ps) k = some p.2.2 := by simp [valN, e', List.find?_cons]
      have e2 : (atKey (q :: qs) k).map (·.2) = some q.2.2 := by simp [atKey, e]
      rw [e1, e2]
      exact h3
    · have e' : ¬ p.1 = k := fun z => e (h1.symm.trans z)
      simpa [valN, atKey, e, e', List.find?_cons] using ih
theorem NkR.len {kvs : List NkE} {xs : List (NestedKey × Addr × Value)} (r : NkR kvs xs) : kvs.length = xs.length := Paired.length r
theorem NkR.all {kvs : List NkE} {xs : List (NestedKey × Addr × Value)} {Φ : NestedKey → Addr → Prop} (r : NkR kvs xs) (h : ∀ p ∈ kvs, Φ p.1 p.2.1) : ∀ x ∈ xs, Φ x.1 x.2.1 := by
  induction r with
  | nil => intro x hx; cases hx
  | @cons p q ps qs hq t ih =>
    intro x hx
    rcases List.mem_cons.mp hx with e | hx
    · subst e
      rw [← hq.1, ← hq.2.1]
      exact h p (List.mem_cons_self ..)
    · exact ih (fun y hy => h y (List.mem_cons_of_mem _ hy)) x hx
theorem NkR.snoc {kvs : List NkE} {xs : List (NestedKey × Addr × Value)} {k : NestedKey} {a : Addr} {v : V} {u : Value} (r : NkR kvs xs) (rv : RelV v u) : NkR (kvs ++ [(k, a, v)]) (xs ++ [(k, a, u)]) := by
  induction r with
  | nil => exact .cons ⟨rfl, rfl, rv⟩ .nil
  | cons h t ih => exact .cons h ih
section
variable {X : Cx} {pins : List (Addr × Obj)} {σ : L2.St} {H : Hp} {s : Shared} {d b : Addr} {kvs : List NkE} {k : NestedKey} {v : V} {r : Value} {A : Around} {E : Value → Shared → Prop}
theorem NkD.get (D : NkD X.prog X.w H d kvs) (ok : HOk X.prog X.w H s.heap) : (d == sysModules) = false ∧ kvs.length ≤ sizeLine ∧ ∃ xs, NkR kvs xs ∧ s.heap.DictOfH (nestedKind X.prog X.w) d xs := by
  obtain ⟨⟨z, hd, xs, rl, o, es, ep, h1, h2, h3, h4, h5⟩, _⟩ := (show ObjOk X.prog X.w H s.heap d (NkO X.prog X.w d kvs) from ok d _ D.o)
  exact ⟨hd, z, xs, rl, o, es, ep, h1, h2, h3, h4, NkR.all (Φ := fun k a => (nestedKind X.prog X.w).is s.heap k a) rl (fun p hp => ⟨(D.k p hp).1.is ok rfl, (D.k p hp).2⟩), h5⟩
theorem nk_room {A : Around} (hu : A.units + 64 < cLine) : (nestedKind X.prog X.w).room A.in1 := by
  show A.units + 1 + 8 < cLine
  omega
theorem nk_in {Q : Value → Shared → Prop} (hu : A.units + 64 < cLine) (I : L2.Inv X pins σ H s) (D : NkD X.prog X.w H d kvs) (hk : NkV H k (.ref b)) (h8 : k.depth ≤ 8) (h : ∀ s', L2.Inv X pins σ H s' → Q (.bool (valN kvs k).isSome) s') : wpAny (model X.prog X.w) A (compareOp .In (.ref b) (.ref d)) Q E s := by
  obtain ⟨hd, _, xs, rl, dd⟩ := D.get I.hok
  refine wpAny_in_heap (nk_room hu) ⟨hk.is I.hok rfl, h8⟩ hd dd ?_
  have q := (valN_rel rl k).isSome_eq
  rw [Option.isSome_map] at q
  rw [← q]
  exact h _ (I.tok _)
theorem nk_notIn {Q : Value → Shared → Prop} (hu : A.units + 64 < cLine) (I : L2.Inv X pins σ H s) (D : NkD X.prog X.w H d kvs) (hk : NkV H k (.ref b)) (h8 : k.depth ≤ 8) (h : ∀ s', L2.Inv X pins σ H s' → Q (.bool (!(valN kvs k).isSome)) s') : wpAny (model X.prog X.w) A (compareOp .NotIn (.ref b) (.ref d)) Q E s := by
  obtain ⟨hd, _, xs, rl, dd⟩ := D.get I.hok
  refine wpAny_notIn_heap (nk_room hu) ⟨hk.is I.hok rfl, h8⟩ hd dd ?_
  have q := (valN_rel rl k).isSome_eq
  rw [Option.isSome_map] at q
  rw [← q]
  exact h _ (I.tok _)
theorem nk_get {Q : Value → Shared → Prop} (hu : A.units + 64 < cLine) (I : L2.Inv X pins σ H s) (D : NkD X.prog X.w H d kvs) (hk : NkV H k (.ref b)) (h8 : k.depth ≤ 8) (hv : valN kvs k = some v) (h : ∀ w' s', L2.Inv X pins σ H s' → RelV v w' → Q w' s') : wpAny (model X.prog X.w) A (getItem (.ref d) (.ref b)) Q E s := by
  obtain ⟨hd, _, xs, rl, dd⟩ := D.get I.hok
  obtain ⟨w', hw, rw'⟩ := RelO.some_of (v := v) (o := (atKey xs k).map (·.2)) (by rw [← hv]; exact valN_rel rl k)
  obtain ⟨p, hp, hp2⟩ := Option.map_eq_some_iff.mp hw
  refine wpAny_getItem_heap (nk_room hu) ⟨hk.is I.hok rfl, h8⟩ dd hp ?_
  rw [hp2]
  exact h w' _ (I.tok _) rw'
theorem nk_put {Q : Unit → Shared → Prop} (hu : A.units + 64 < cLine) (I : L2.Inv X pins σ H s) (D : NkD X.prog X.w H d kvs) (hk : NkV H k (.ref b)) (h8 : k.depth ≤ 8) (hn : valN kvs k = none) (hl : kvs.length < sizeLine) (rv : RelV v r)
    (h : ∀ s', L2.Inv X pins σ (upd H d (NkO X.prog X.w d (kvs ++ [(k, b, v)]))) s' → Q () s') : wpAny (model X.prog X.w) A (setItem (.ref d) (.ref b) r) Q E s := by
  obtain ⟨hd, z, xs, rl, dd⟩ := D.get I.hok
  have hat : atKey xs k = none := by
    have q := (valN_rel rl k).isSome_eq
    rw [Option.isSome_map, hn] at q
    cases e : atKey xs k with
    | none => rfl
    | some y => rw [e] at q; cases q
  refine wpAny_setItem_heap (hsz := by rw [← rl.len]; exact z) (nk_room hu) ⟨hk.is I.hok rfl, h8⟩ dd fun h' dd' hs => h _ ?_
  rw [storedH, hat, if_neg (by decide)] at dd'
  obtain ⟨q, es, ep, hq, h2, h3, h4, _, h5⟩ := dd'
  refine d_write I (by rw [D.o]; exact True.intro) hs ⟨q, hq⟩ (nkO_ok ⟨?_, hd, _, rl.snoc rv, q, es, ep, hq, h2, h3, h4, h5⟩)
  rw [List.length_append]
  exact hl
theorem nk_type (I : L2.Inv X pins σ H s) (D : NkD X.prog X.w H d kvs) : s.TypeIs (.ref d) "dict" := let ⟨_, _, _, _, dd⟩ := D.get I.hok; dd.typeIs
end
/-! ### rules -/
def rInNk (P : Program) (w : World) (f : Bool → Bool) : R2 := fun y x H Q => ∃ d b kvs k, x = .ref d ∧ y = .ref b ∧ NkD P w H d kvs ∧ NkV H k (.ref b) ∧ k.depth ≤ 8 ∧ Q (.bl (f (valN kvs k).isSome)) H
def tNGet (P : Program) (w : World) (td ty : TE) : TE := fun σ H Q => td σ H fun x H1 => ty σ H1 fun y H2 => ∃ d b kvs k v, x = .ref d ∧ y = .ref b ∧ NkD P w H2 d kvs ∧ NkV H2 k (.ref b) ∧ k.depth ≤ 8 ∧ valN kvs k = some v ∧ Q v H2
def sNPut (P : Program) (w : World) (td ty tv : TE) : TS := fun D σ H => tv σ H fun v H1 => td σ H1 fun x H2 => ty σ H2 fun y H3 => ∃ d b kvs k, x = .ref d ∧ y = .ref b ∧ NkD P w H3 d kvs ∧ NkV H3 k (.ref b) ∧ k.depth ≤ 8 ∧ valN kvs k = none ∧ kvs.length < sizeLine ∧ D.nx σ (upd H3 d (NkO P w d (kvs ++ [(k, b, v)])))
def tNkNew (P : Program) (w : World) : TE := fun _ H Q => ∀ p, H p = none → Q (.ref p) (upd H p (NkO P w p []))
section
variable {X : Cx} {o i e value : Expr} {pos pos' tpos : Pos} {td ty tv : TE}
theorem op_inNk (hu : X.A.units + 64 < cLine) : OpR X (compareOp .In) (rInNk X.prog X.w id) := by
  intro pins s σ H y x u v Q I ry rx h
  obtain ⟨d, b, kvs, k, rfl, rfl, D, hk, h8, q⟩ := h
  cases (show v = Value.ref d from rx)
  cases (show u = Value.ref b from ry)
  exact nk_in hu I D hk h8 fun s' I' => ⟨.bl (valN kvs k).isSome, H, I', rfl, q⟩
theorem op_notInNk (hu : X.A.units + 64 < cLine) : OpR X (compareOp .NotIn) (rInNk X.prog X.w not) := by
  intro pins s σ H y x u v Q I ry rx h
  obtain ⟨d, b, kvs, k, rfl, rfl, D, hk, h8, q⟩ := h
  cases (show v = Value.ref d from rx)
  cases (show u = Value.ref b from ry)
  exact nk_notIn hu I D hk h8 fun s' I' => ⟨.bl (!(valN kvs k).isSome), H, I', rfl, q⟩
theorem pe_nget (hu : X.A.units + 64 < cLine) (ho : PE X o td) (hi : PE X i ty) (hs : NoSl i) : PE X (.Subscript o i pos) (tNGet X.prog X.w td ty) := by
  refine ⟨fun pins s σ H Q I h => ?_⟩
  refine subD_of PySem.F.slot_dict_getitem.lookup hs (thn (ho.run pins s σ H _ I h) fun u s1 ⟨x, H1, I1, rx, q1⟩ => thn (hi.run pins s1 σ H1 _ I1 q1) fun iv s2 ⟨y, H2, I2, ry, d, b, kvs, k, v, ex, ey, D, hk, h8, hv, q2⟩ => ?_)
  subst ex
  subst ey
  cases (show u = Value.ref d from rx)
  cases (show iv = Value.ref b from ry)
  exact ⟨nk_type I2 D, nk_get hu I2 D hk h8 hv fun w' s3 I3 rw' => ⟨v, H2, I3, rw', q2⟩⟩
theorem ps_nput (hu : X.A.units + 64 < cLine) (ho : PE X o td) (hi : PE X i ty) (hv : PE X value tv) (hs : swapsWith value (some (.Subscript o i pos')) pos.line X.env = pure false) :
    PS X (.Assign [.Subscript o i pos'] value pos) (sNPut X.prog X.w td ty tv) := by
  refine ⟨fun pins s σ H D I h => ?_⟩
  refine wpAny_Assign_Subscript (thn (hv.run pins s σ H _ I h) fun r s1 ⟨v, H1, I1, rv, q1⟩ => thn (ho.run pins s1 σ H1 _ I1 q1) fun u s2 ⟨x, H2, I2, rx, q2⟩ => thn (hi.run pins s2 σ H2 _ I2 q2) fun iv s3 ⟨y, H3, I3, ry, d, b, kvs, k, ex, ey, Dk, hk, h8, hn, hl, q3⟩ => ?_) hs
  subst ex
  subst ey
  cases (show u = Value.ref d from rx)
  cases (show iv = Value.ref b from ry)
  exact nk_put hu I3 Dk hk h8 hn hl rv fun s4 I4 => ⟨σ, _, I4, q3⟩
theorem pe_nknew : PE X (.Dict [] [] pos) (tNkNew X.prog X.w) := ⟨fun pins s σ H Q I h =>
  wpAny_Dict_empty ⟨.ref s.heap.objs.size, _, I.laid (a := s.heap.objs.size) (o := NkO X.prog X.w s.heap.objs.size []) (t' := s.toks) (fun _ _ q => Heap.get?_push_of_some _ q) (Nat.le_refl _)
    (nkO_ok ⟨Nat.zero_le _, beq_eq_false_iff_ne.mpr (Ne.symm (Nat.ne_of_lt I.big)), [], .nil, _, #[], 0, Heap.get?_push_size _ rfl, ⟨rfl, rfl, rfl⟩, rfl, rfl, List.nodup_nil⟩), rfl, h _ (I.hok.fresh (Nat.le_refl _))⟩⟩
end
section
variable {X : Cx} {P : Program} {w : World} {o i e value : Expr} {pos pos' tpos : Pos} {td ty tv : TE}
theorem op_inNkZ (hu : X.A.units + 64 < cLine) (hp : X.prog = P := by rfl) (hw : X.w = w := by rfl) : OpR X (compareOp .In) (rInNk P w id) := by
  subst hp hw
  exact op_inNk hu
theorem op_notInNkZ (hu : X.A.units + 64 < cLine) (hp : X.prog = P := by rfl) (hw : X.w = w := by rfl) : OpR X (compareOp .NotIn) (rInNk P w not) := by
  subst hp hw
  exact op_notInNk hu
theorem pe_ngetZ (hu : X.A.units + 64 < cLine) (ho : PE X o td) (hi : PE X i ty) (hs : NoSl i) (hp : X.prog = P := by rfl) (hw : X.w = w := by rfl) : PE X (.Subscript o i pos) (tNGet P w td ty) := by
  subst hp hw
  exact pe_nget hu ho hi hs
theorem ps_nputZ (hu : X.A.units + 64 < cLine) (ho : PE X o td) (hi : PE X i ty) (hv : PE X value tv) (hs : swapsWith value (some (.Subscript o i pos')) pos.line X.env = pure false) (hp : X.prog = P := by rfl) (hw : X.w = w := by rfl) :
    PS X (.Assign [.Subscript o i pos'] value pos) (sNPut P w td ty tv) := by
  subst hp hw
  exact ps_nput hu ho hi hv hs
theorem pe_nknewZ (hp : X.prog = P := by rfl) (hw : X.w = w := by rfl) : PE X (.Dict [] [] pos) (tNkNew P w) := by
  subst hp hw
  exact pe_nknew
end
/-! ### what the dict is not -/
theorem nk_not_code {P : Program} {w : World} {d : Addr} {kvs : List NkE} (c : Addr) (q : Str) : NkO P w d kvs ≠ CodeO c q := fun z => by
  have e : NkP P w d kvs = fun h => ∃ (oc : Obj) (vs : Array Value) (t : Tok), h.get? c = some oc ∧ oc.data = .fields vs ∧ vs[1]? = some (.str q t) := HO.ext.inj z
  let o : Obj := { cls := .none, data := .fields #[.none, .str q 0] }
  let h : Heap := { objs := Array.replicate (c + d + 1) o }
  have g : ∀ a, a < c + d + 1 → h.get? a = some o := fun a ha => by
    show (match (Array.replicate (c + d + 1) o)[a]? with
      | some ⟨_, _, .freed, _⟩ => none
      | o => o) = some o
    have : (Array.replicate (c + d + 1) o)[a]? = some o := by
      rw [Array.getElem?_replicate, if_pos ha]
    rw [this]
  have h1 : NkP P w d kvs h := by
    rw [e]
    exact ⟨o, #[.none, .str q 0], 0, g c (Nat.lt_succ_of_le (Nat.le_add_right c d)), rfl, rfl⟩
  obtain ⟨_, _, xs, _, ob, es, ep, h2, _, h3, _⟩ := h1
  rw [g d (Nat.lt_succ_of_le (Nat.le_add_left d c))] at h2
  cases h2
  cases h3
theorem nk_not_tbl {P : Program} {w : World} {d : Addr} {kvs : List NkE} (ps : Array Value) : NkO P w d kvs ≠ .tbl ps := fun z => by
  unfold NkO at z
  cases z
theorem NkD.gr {T : List (Addr × Str)} {P : Program} {w : World} {H H' : Hp} {d : Addr} {kvs : List NkE} (g : Gr T none H H') (D : NkD P w H d kvs) : NkD P w H' d kvs :=
  ⟨g.at D.o (by simp) fun ps => nk_not_tbl ps, fun p hp => ⟨(D.k p hp).1.mono fun a xs e => g.at e, (D.k p hp).2⟩⟩
theorem Gr.putNk {T : List (Addr × Str)} {p : Option Addr} {P : Program} {w : World} {H H1 : Hp} {d : Addr} {kvs : List NkE} {o : HO} (g : Gr T p H H1) (n : H d = none) (D : NkD P w H1 d kvs) : Gr T p H (upd H1 d o) :=
  ⟨fun b u hb h nt => by
    rw [upd_ne (ne_of_none h n)]
    exact g.x b u hb h nt, fun h => tabs_put (g.t h) D.o (fun ps => nk_not_tbl ps) (fun c q => nk_not_code c q), fun b h => upd_free g.f h⟩
theorem NkD.put {P : Program} {w : World} {H : Hp} {d b : Addr} {kvs : List NkE} {k : NestedKey} {v : V} (D : NkD P w H d kvs) (hk : NkV H k (.ref b)) (h8 : k.depth ≤ 8) : NkD P w (upd H d (NkO P w d (kvs ++ [(k, b, v)]))) d (kvs ++ [(k, b, v)]) := by
  have e : ∀ a xs, H a = some (.tup xs) → (upd H d (NkO P w d (kvs ++ [(k, b, v)]))) a = some (.tup xs) := fun a xs h => by
    rw [upd_ne fun z => by
      rw [z, D.o] at h
      unfold NkO at h
      cases h]
    exact h
  refine ⟨upd_same, fun p hp => ?_⟩
  rcases List.mem_append.mp hp with hp | hp
  · exact ⟨(D.k p hp).1.mono e, (D.k p hp).2⟩
  · rw [List.mem_singleton.mp hp]
    exact ⟨hk.mono e, h8⟩
theorem NkD.new {P : Program} {w : World} {H : Hp} {d : Addr} : NkD P w (upd H d (NkO P w d [])) d [] := ⟨upd_same, fun p hp => by cases hp⟩
theorem NkD.upd {P : Program} {w : World} {H : Hp} {d a : Addr} {kvs : List NkE} {xs : List V} {o : HO} (D : NkD P w H d kvs) (h : H a = some (.lst xs)) : NkD P w (L2.upd H a o) d kvs := by
  refine ⟨?_, fun p hp => ⟨(D.k p hp).1.mono fun b ys e => ?_, (D.k p hp).2⟩⟩
  · rw [upd_ne fun z => by
      have := D.o
      rw [z, h] at this
      unfold NkO at this
      cases this]
    exact D.o
  · rw [upd_ne fun z => by
      rw [z, h] at e
      cases e]
    exact e
theorem valN_none {kvs : List NkE} {k : NestedKey} (h : ∀ p ∈ kvs, p.1 ≠ k) : valN kvs k = none := by
  unfold valN
  rw [List.find?_eq_none.mpr fun x hx z => h x hx (of_decide_eq_true z)]
  rfl
theorem valN_some {kvs : List NkE} {k : NestedKey} {v : V} (h : ∃ p ∈ kvs, p.1 = k) (u : ∀ p ∈ kvs, p.1 = k → p.2.2 = v) : valN kvs k = some v := by
  unfold valN
  obtain ⟨p, hp, hk⟩ := h
  cases e : kvs.find? fun x => decide (x.1 = k) with
  | none => exact absurd hk fun z => absurd (decide_eq_true z) (List.find?_eq_none.mp e p hp)
  | some q =>
    have h1 := List.mem_of_find?_eq_some e
    have h2 := List.find?_some e
    rw [Option.map_some, u q h1 (of_decide_eq_true h2)]
end Ps

set_option maxHeartbeats 8000000
set_option pp.maxSteps 500
/-! Rows played: once, very often. -/
namespace Ps
open PySem PySem.Spec PyProof.Rows PySem.W L2 LamX

/-! ### plain -/
/-- the state behind a row -/
def rnS (b : Bk) (P : PrS) (s : BSt) (ws : List Str) : BSt := ws.foldl (fun s w => b.next P s w) s
/-- what the row is paid -/
def paidR (b : Bk) (P : PrS) (pay : BSt → Str → Int) : BSt → List Str → Int
  | _, [] => 0
  | s, w :: r => pay s w + paidR b P pay (b.next P s w) r
/-- the row n times -/
def stN (b : Bk) (P : PrS) (s : BSt) (ws : List Str) : Nat → BSt
  | 0 => s
  | n + 1 => rnS b P (stN b P s ws n) ws
def cN (b : Bk) (P : PrS) (pay : BSt → Str → Int) (s : BSt) (ws : List Str) : Nat → Int
  | 0 => 0
  | n + 1 => cN b P pay s ws n + paidR b P pay (stN b P s ws n) ws
/-- costs are sixths -/
structure Six (b : Bk) (P : PrS) (pay : BSt → Str → Int) : Prop where
  c : ∀ s w, w ∈ P.ks.map (·.1) → b.cost P s w = low (pay s w) 6
  lo : ∀ s w, w ∈ P.ks.map (·.1) → 0 ≤ pay s w
  hi : ∀ s w, w ∈ P.ks.map (·.1) → pay s w ≤ 1000
theorem six_of (pl : Plan) {P : PrD} (g : PrG P) : Six (bkOfPl pl) (prOf P) (lpay pl P) := by
  have hw : ∀ w, w ∈ (prOf P).ks.map (·.1) → w ∈ P.ks.map (·.1) := fun w h => (prOf_names P w).mp h
  have b : ∀ s w, w ∈ P.ks.map (·.1) → 0 ≤ lpay pl P s w ∧ lpay pl P s w ≤ 1000 := fun s w hw => by
    have bk := lkD_b g hw
    have bm := g.m
    have bg := g.g
    unfold lpay
    split
    · omega
    · split <;> omega
  exact ⟨fun s w h => cost_eq g s (hw w h), fun s w h => (b s w (hw w h)).1, fun s w h => (b s w (hw w h)).2⟩
section
variable {b : Bk} {P : PrS} {pay : BSt → Str → Int} {s : BSt} {ws : List Str} {w : Str}
theorem rnS_snoc : rnS b P s (ws ++ [w]) = b.next P (rnS b P s ws) w := by
  unfold rnS
  rw [List.foldl_append]
  rfl
theorem paidR_snoc : ∀ {ws : List Str} {s : BSt}, paidR b P pay s (ws ++ [w]) = paidR b P pay s ws + pay (rnS b P s ws) w
  | [], s => by
    show pay s w + 0 = 0 + pay s w
    omega
  | v :: r, s => by
    show pay s v + paidR b P pay (b.next P s v) (r ++ [w]) = pay s v + paidR b P pay (b.next P s v) r + pay (rnS b P (b.next P s v) r) w
    rw [paidR_snoc]
    omega
theorem rnS_wf (hb : BkOk b) (hs : b.wf P s) (hw : ∀ w ∈ ws, w ∈ P.ks.map (·.1)) : b.wf P (rnS b P s ws) := by
  induction ws generalizing s with
  | nil => exact hs
  | cons w r ih => exact ih (next_wf hb hs (hw w (List.mem_cons_self ..))) fun v hv => hw v (List.mem_cons_of_mem _ hv)
theorem paidR_b (S : Six b P pay) : ∀ {ws : List Str} {s : BSt}, (∀ w ∈ ws, w ∈ P.ks.map (·.1)) → 0 ≤ paidR b P pay s ws ∧ paidR b P pay s ws ≤ 1000 * (ws.length : Nat)
  | [], _, _ => ⟨Int.le_refl 0, Int.le_refl 0⟩
  | w :: r, s, h => by
    have h1 := S.lo s w (h w (List.mem_cons_self ..))
    have h1' := S.hi s w (h w (List.mem_cons_self ..))
    have h2 := paidR_b S (ws := r) (s := b.next P s w) fun v hv => h v (List.mem_cons_of_mem _ hv)
    have e2 : ((w :: r).length : Nat) = r.length + 1 := rfl
    show 0 ≤ pay s w + paidR b P pay (b.next P s w) r ∧ _
    rw [e2]
    refine ⟨by omega, ?_⟩
    show pay s w + paidR b P pay (b.next P s w) r ≤ _
    push_cast
    omega
theorem stN_wf (hb : BkOk b) (hs : b.wf P s) (hw : ∀ w ∈ ws, w ∈ P.ks.map (·.1)) : ∀ n, b.wf P (stN b P s ws n)
  | 0 => hs
  | n + 1 => rnS_wf hb (stN_wf hb hs hw n) hw
theorem cN_b (S : Six b P pay) (hw : ∀ w ∈ ws, w ∈ P.ks.map (·.1)) (hl : ws.length ≤ 1000) : ∀ n : Nat, 0 ≤ cN b P pay s ws n ∧ cN b P pay s ws n ≤ 1000000 * (n : Nat)
  | 0 => ⟨Int.le_refl 0, Int.le_refl 0⟩
  | n + 1 => by
    have h1 := cN_b S hw hl n
    have h2 := paidR_b S (s := stN b P s ws n) hw
    show 0 ≤ cN b P pay s ws n + paidR b P pay (stN b P s ws n) ws ∧ cN b P pay s ws n + paidR b P pay (stN b P s ws n) ws ≤ _
    push_cast
    omega
/-- states that come again -/
theorem stN_per {f L : Nat} (h : stN b P s ws (f + L) = stN b P s ws f) : ∀ j, stN b P s ws (f + j + L) = stN b P s ws (f + j)
  | 0 => h
  | j + 1 => by
    have e := stN_per h j
    show stN b P s ws (f + j + 1 + L) = stN b P s ws (f + j + 1)
    rw [show f + j + 1 + L = (f + j + L) + 1 by omega]
    show rnS b P (stN b P s ws (f + j + L)) ws = rnS b P (stN b P s ws (f + j)) ws
    rw [e]
theorem cN_per {f L : Nat} (h : stN b P s ws (f + L) = stN b P s ws f) : ∀ j, cN b P pay s ws (f + j + L) = cN b P pay s ws (f + j) + (cN b P pay s ws (f + L) - cN b P pay s ws f)
  | 0 => by
    show cN b P pay s ws (f + L) = cN b P pay s ws f + _
    omega
  | j + 1 => by
    have e := cN_per h j
    have e2 := stN_per h j
    show cN b P pay s ws (f + j + 1 + L) = cN b P pay s ws (f + j + 1) + _
    rw [show f + j + 1 + L = (f + j + L) + 1 by omega]
    show cN b P pay s ws (f + j + L) + paidR b P pay (stN b P s ws (f + j + L)) ws = cN b P pay s ws (f + j) + paidR b P pay (stN b P s ws (f + j)) ws + _
    rw [e, e2]
    omega
theorem stN_jump {f L : Nat} (h : stN b P s ws (f + L) = stN b P s ws f) (r : Nat) : ∀ k, stN b P s ws (f + r + k * L) = stN b P s ws (f + r)
  | 0 => by rw [Nat.zero_mul, Nat.add_zero]
  | k + 1 => by
    rw [Nat.succ_mul, show f + r + (k * L + L) = f + (r + k * L) + L by omega, stN_per h, show f + (r + k * L) = f + r + k * L by omega]
    exact stN_jump h r k
theorem cN_jump {f L : Nat} (h : stN b P s ws (f + L) = stN b P s ws f) (r : Nat) : ∀ k : Nat, cN b P pay s ws (f + r + k * L) = cN b P pay s ws (f + r) + (cN b P pay s ws (f + L) - cN b P pay s ws f) * (k : Nat)
  | 0 => by
    rw [Nat.zero_mul, Nat.add_zero]
    simp
  | k + 1 => by
    rw [Nat.succ_mul, show f + r + (k * L + L) = f + (r + k * L) + L by omega, cN_per h, show f + (r + k * L) = f + r + k * L by omega, cN_jump h r k]
    push_cast
    rw [Int.mul_add, Int.mul_one]
    omega
end
theorem lstS_rn (pl : Plan) (P : PrD) (s : BSt) (ws : List Str) : ws.foldl (fun s w => (bkOfPl pl).next (prOf P) s w) s = rnS (bkOfPl pl) (prOf P) s ws := rfl
/-! ### states as keys -/
def memK : BSt → List NestedKey
  | .own _ m => m.map .text
  | .gen _ none => []
  | .gen _ (some n) => [.num n]
def stKey (s : BSt) : NestedKey := .tup [.text s.mode, .num (if s.kept = true then 1 else 0), .tup (memK s)]
theorem text_inj : ∀ {a b : List Str}, a.map NestedKey.text = b.map NestedKey.text → a = b
  | [], [], _ => rfl
  | [], _ :: _, h => by cases h
  | _ :: _, [], h => by cases h
  | x :: r, y :: t, h => by
    have h' := List.cons.inj h
    rw [NestedKey.text.inj h'.1, text_inj h'.2]
theorem stKey_inj {s t : BSt} (h : stKey s = stKey t) : s = t := by
  have h' := List.cons.inj (NestedKey.tup.inj h)
  have h'' := List.cons.inj h'.2
  have h3 := NestedKey.tup.inj (List.cons.inj h''.2).1
  have hk : s.kept = t.kept := by
    have := NestedKey.num.inj h''.1
    cases h1 : s.kept <;> cases h2 : t.kept <;> rw [h1, h2] at this <;> first | rfl | (exact absurd this (by decide))
  have hm := NestedKey.text.inj h'.1
  cases s with
  | own k m =>
    cases t with
    | own k' m' =>
      have e : m = m' := text_inj h3
      have e2 : k = k' := hk
      rw [e, e2]
    | gen k' c => exact absurd hm (by show ¬ ("own" : Str) = "general"; decide +kernel)
  | gen k c =>
    cases t with
    | own k' m' => exact absurd hm (by show ¬ ("general" : Str) = "own"; decide +kernel)
    | gen k' c' =>
      have e2 : k = k' := hk
      cases c with
      | none =>
        cases c' with
        | none => rw [e2]
        | some n => cases h3
      | some n =>
        cases c' with
        | none => cases h3
        | some n' =>
          have := NestedKey.num.inj (List.cons.inj h3).1
          rw [e2, this]
theorem depth_texts : ∀ m : List Str, NestedKey.depthAll (m.map NestedKey.text) = 0
  | [] => rfl
  | z :: r => by
    show max (NestedKey.depth (.text z)) (NestedKey.depthAll (r.map NestedKey.text)) = 0
    rw [depth_texts r]
    rfl
theorem stKey_depth (s : BSt) : (stKey s).depth ≤ 8 := by
  have h : NestedKey.depthAll (memK s) = 0 := by
    cases s with
    | own k m => exact depth_texts m
    | gen k c => cases c <;> rfl
  have e : (stKey s).depth = NestedKey.depthAll [.text s.mode, .num (if s.kept = true then 1 else 0), .tup (memK s)] + 1 := by
    unfold stKey
    rw [NestedKey.depth]
  rw [e]
  simp only [NestedKey.depthAll, NestedKey.depth, h]
  decide
theorem nk_texts {H : Hp} : ∀ m : List Str, NkAll H (m.map NestedKey.text) (m.map V.str)
  | [] => .nil
  | z :: r => .cons (.str z) (nk_texts r)
theorem StV.key {H : Hp} {v : V} {s : BSt} (h : StV H v s) : ∃ a, v = .ref a ∧ NkV H (stKey s) (.ref a) := by
  obtain ⟨t, m, rfl, h1, h2⟩ := h
  refine ⟨t, rfl, .tup h1 (.cons (.str _) (.cons (.bl _ rfl) (.cons (.tup h2 ?_) .nil)))⟩
  cases s with
  | own k m => exact nk_texts m
  | gen k c =>
    cases c with
    | none => exact .nil
    | some n => exact .cons (.int n) .nil
/-! ### once -/
def spOnce (T : List (Addr × Str)) (C CB CP : Addr) (b : Bk) (P : PrS) (pay : BSt → Str → Int) : Sp := fun vs H Q _ => ∃ vb vp sv l s ws, vs = [vb, vp, sv, .ref l] ∧ BkAt C CB H vb b ∧ PrAtS C CP H vp P ∧ PrG' P ∧ StV H sv s ∧ b.wf P s ∧ H l = some (.lst (ws.map V.str)) ∧ ws.length ≤ 1000 ∧ (∀ w ∈ ws, w ∈ P.ks.map (·.1)) ∧ Tabs T H ∧
  ∀ r c st H', Gr T none H H' → H r = none → H' r = some (.tup [c, st]) → Sh C H' c (low (paidR b P pay s ws) 6) → StV H' st (rnS b P s ws) → Q (.ref r) H'
section
variable {Z : Cz} {f C CB CP : Addr} {fd : FuncData} {T0 : List (Addr × Str)} {b : Bk} {P : PrS} {pay : BSt → Str → Int}
theorem sz6 {m : Int} (h0 : 0 ≤ m) {n k : Nat} (h : m ≤ (2 ^ k - 1 : Nat)) (hk : k ≤ n) (h3 : 3 ≤ n) : Sz n (low m 6) := by
  refine Sz.of_low (by decide) (lt_up (m := k) ?_ hk) (lt_up (m := 3) (by decide) h3)
  have : 0 < 2 ^ k := Nat.pos_of_ne_zero (by simp)
  omega
/-! ### very often -/
theorem low6_sub (a b : Int) : gSub (low a 6) (low b 6) = low (a - b) 6 := by
  unfold gSub
  have : gNeg (low b 6) = low (-b) 6 := low_neg (by decide)
  rw [this, low6_add]
  rfl
theorem low6_mul (m k : Int) : gMul (low m 6) (k, 1) = low (m * k) 6 := by
  have e : ((k, 1) : Int × Int) = low k 1 := (low_one k).symm
  rw [e]
  unfold gMul
  rw [low_mul (by decide) (by decide)]
  rfl
/-- few states -/
def FewS (b : Bk) (P : PrS) (N : Nat) : Prop := ∃ L : List BSt, L.length ≤ N ∧ ∀ s, b.wf P s → s ∈ L
theorem pigeon {α : Type} [DecidableEq α] : ∀ (l L : List α), l.Nodup → (∀ x ∈ l, x ∈ L) → l.length ≤ L.length
  | [], _, _, _ => Nat.zero_le _
  | x :: r, L, nd, h => by
    rw [List.nodup_cons] at nd
    have hx := h x (List.mem_cons_self ..)
    have := pigeon r (L.erase x) nd.2 fun y hy => (List.mem_erase_of_ne (fun z => nd.1 (by rw [← z]; exact hy))).mpr (h y (List.mem_cons_of_mem _ hy))
    rw [List.length_erase_of_mem hx] at this
    have hp : 0 < L.length := List.length_pos_of_mem hx
    rw [List.length_cons]
    omega
theorem atI_end {xs : List V} {n : Nat} {v : V} (hl : xs.length = n + 1) (h : xs[n]? = some v) : atI xs (-1) = some v := by
  have e : xs = xs.take n ++ [v] := by
    have := List.take_append_drop n xs
    rw [List.drop_eq_getElem_cons (show n < xs.length by omega), List.drop_eq_nil_of_le (by omega)] at this
    rw [List.getElem?_eq_getElem (show n < xs.length by omega)] at h
    rw [← Option.some.inj h]
    exact this.symm
  rw [e]
  exact atI_last _ _
def spTimes (T : List (Addr × Str)) (C CB CP : Addr) (b : Bk) (P : PrS) (pay : BSt → Str → Int) : Sp := fun vs H Q _ => ∃ (vb vp sv : V) (l : Addr) (s : BSt) (ws : List Str) (t : Nat), vs = [vb, vp, sv, .ref l, .int t] ∧ BkAt C CB H vb b ∧ PrAtS C CP H vp P ∧ PrG' P ∧ StV H sv s ∧ b.wf P s ∧ H l = some (.lst (ws.map V.str)) ∧ ws.length ≤ 1000 ∧ (∀ w ∈ ws, w ∈ P.ks.map (·.1)) ∧ t ≤ 10 ^ 30 ∧ Tabs T H ∧
  ∀ r c st H', Gr T none H H' → H r = none → H' r = some (.tup [c, st]) → Sh C H' c (low (cN b P pay s ws t) 6) → StV H' st (stN b P s ws t) → Q (.ref r) H'
end
end Ps

/-! x(..) of an instance with own __call__. -/
namespace Ps
open PySem PySem.Spec PyProof.Rows PySem.W PySem.Calls L2

/-- the class's own __call__ -/
def CalO (Z : Cz) (CX : CXT) (k : Nat) (C : Addr) (ps : List Str) (sp : Sp) : Prop := ∃ f fd, Z.ok CX k f fd ps sp ∧ OwnOp Z.K C f "__call__" ∧ fnIn Z.K f = true ∧ Binds Z.K fd ps []
def tCallO (i : Nat) (C : Addr) (sp : Sp) (E : XK) (t : TA) : TE := fun σ H Q => ∃ x dx fs, σ[i]? = some (some (.ref x)) ∧ H x = some (.ins C dx fs) ∧ t σ H fun vs H1 => InsC C H1 (.ref x) ∧ sp (.ref x :: vs) H1 Q E
section
variable {M : Model} {A : Around} {E : Value → Shared → Prop} {s : Shared} {env : Env} {pos : Pos} {x : Addr} {Q : Value → Shared → Prop}
/-- plain instances keep nothing: the caller does -/
theorem keeps_plain {h : Heap} {o : Obj} (e : h.get? x = some o) (hd : o.data = .plain) : Looks M h (keeperOf (.ref x)) .caller := by
  refine (Looks.ld (part := none) e).andThen ?_
  simp only [hd]
  exact .now
/-- the call behind its arguments, of a plain instance -/
theorem with_plain {e : Expr} {rest : List Expr} (h : wpAny M A (spliced (backTo pos (starEach (e :: rest) env))) (fun vs s₁ => (∃ o, s₁.heap.get? x = some o ∧ o.data = .plain) ∧ wpAny M A (call (.ref x) vs) Q E s₁) E s)
    (he : starEach (e :: rest) env = (false, eval e env) :: starEach rest env := by rfl) (hplain : (backTo pos (starEach rest env)).any (·.1) = false := by rfl) :
    wpAny M A (callWith pos (.ref x) [] (backTo pos (starEach (e :: rest) env)) []) Q E s := by
  rw [he] at h ⊢
  have hp : ((backTo pos ((false, eval e env) :: starEach rest env)).any (·.1) || ([] : List (Option Str × Sem Value)).any (·.1.isNone)) = false := by
    show ((false || (backTo pos (starEach rest env)).any (·.1)) || false) = false
    rw [hplain]
    rfl
  have h2 : wpAny M A (evalArgs (.ref x) true (backTo pos ((false, eval e env) :: starEach rest env)) []) (fun a s₁ => (∃ o, s₁.heap.get? x = some o ∧ o.data = .plain) ∧ wpAny M A (call (.ref x) ([] ++ a.pos) a.kw) Q E s₁) E s := evalArgs_plain h
  generalize backTo pos ((false, eval e env) :: starEach rest env) = args at h2 hp ⊢
  unfold callWith
  refine wpAny_bind (wpAny_holding (wpAny_mono h2 (fun a s₁ h₁ => wpAny_bind (wpAny_standAt ?_)) fun _ _ y => y))
  obtain ⟨⟨o, e1, e2⟩, h₁⟩ := h₁
  have L := keeps_plain (M := M) e1 e2
  simp only [hp]
  refine wpAny_bind (L.here ?_)
  exact wpAny_bind (wpAny_mono (wpAny_operateT h₁) (fun r s₂ hr => wpAny_bind (wpAny_holding (wpAny_point (wpAny_pure hr)))) fun _ _ y => y)
end
section
variable {Z : Cz} {X : Cx} {CX : CXT} {k i : Nat} {C f : Addr} {fd : FuncData} {ps : List Str} {sp : Sp} {E : XK} {x : Str} {p pos : Pos} {e : Expr} {es : List Expr} {t : TA}
theorem pe_callO (c : CalO Z CX k C ps sp) (hr : Room k X.A) (hN : X.N[i]? = some x) (hv : Vis X.env.scope x) (hx : Passes CX X E) (ha : PA X (e :: es) t) (z : InZ Z X := by exact ⟨rfl, rfl, rfl, rfl, rfl⟩)
    (hdb : (x == ("__debug__" : Str)) = false := by decide) (hcd : (x == ("__classdict__" : Str)) = false := by decide)
    (he : starEach (e :: es) X.env = (false, eval e X.env) :: starEach es X.env := by rfl) (hpl : (backTo pos (starEach es X.env)).any (·.1) = false := by rfl) : PE X (.Call (.Name x p) (e :: es) [] pos) (tCallO i C sp E t) := by
  obtain ⟨f, fd, G, O, hf, hbd⟩ := c
  rw [← z.K] at O hbd hf
  refine ⟨fun pins s σ H Q I h => ?_⟩
  obtain ⟨a, dx, fs, hs, ha0, ht⟩ := h
  refine wpAny_Call_Name_kw (thn ((pe_var (pos := p) hN hv hdb hcd).run pins s σ H (fun v H1 => v = .ref a ∧ H1 = H) I ⟨.ref a, hs, rfl, rfl⟩) fun u s1 ⟨v, H1, I1, r1, q1⟩ => ?_)
  obtain ⟨rfl, rfl⟩ := q1
  cases r1
  refine with_plain (thn (ha.run pos pins s1 σ _ _ I1 ht) fun us s2 ⟨vs, H2, I2, r, q⟩ => ?_) he hpl
  obtain ⟨⟨a', dx', fs', e', had⟩, q⟩ := q
  cases e'
  obtain ⟨mA, J, _⟩ := ins_get I2.hok had
  obtain ⟨od, J, _⟩ := J.look
  refine ⟨⟨_, J.at_, rfl⟩, ?_⟩
  have hl : (us ++ []).length + 1 = ps.length := by
    rw [List.append_nil, ← r.length]
    exact G.len _ _ _ _ q
  have hb' := hbd s2 (.ref a :: us) I2.kIn (by rw [List.append_nil] at hl ⊢; simpa using hl)
  rw [List.append_nil] at hb'
  refine wpAny_call (kco_code I2.kIn J rfl O.fn O.isf hf (codeAny_mono ((z.ok G).run X.A X.stack s2 H2 ⟨.ref a :: us, []⟩ (.ref a :: us) (.ref a :: vs) Q E hr I2.env0 hb' (.cons rfl r) q) fun r s' hq => ?_))
  cases r with
  | error e => exact hx pins σ H2 s2 e s' I2 hq
  | ok fl =>
    cases fl with
    | ret u => exact I2.after hq
    | next => exact False.elim hq
    | brk => exact False.elim hq
    | cont => exact False.elim hq
end
end Ps

/-! Players. -/
namespace Ps
open PySem PySem.Spec PyProof.Rows PySem.W L2 LamX

/-- a player's own fields -/
def pyF (vb vp st pd : V) (n : Int) : List (Str × V) := [("own_book", vb), ("own_prices", vp), ("own_state", st), ("own_paid", pd), ("own_asked", .int n)]
structure Py where
  b : Bk
  P : PrS
  s : BSt
  paid : Int × Int
  n : Int
def PyAt (C CB CP CY : Addr) (H : Hp) (y : Addr) (Y : Py) : Prop := ∃ dx vb vp st pd, H y = some (.ins CY dx (pyF vb vp st pd Y.n)) ∧ BkAt C CB H vb Y.b ∧ PrAtS C CP H vp Y.P ∧ StV H st Y.s ∧ Sh C H pd Y.paid
theorem PyAt.mono {C CB CP CY : Addr} {H H' : Hp} {y : Addr} {Y : Py} (e : Same H H') (h : PyAt C CB CP CY H y Y) : PyAt C CB CP CY H' y Y := by
  obtain ⟨dx, vb, vp, st, pd, h1, h2, h3, h4, h5⟩ := h
  exact ⟨dx, vb, vp, st, pd, e _ _ h1, h2.mono e, h3.mono e, h4.mono e, h5.mono e⟩
theorem PyAt.gr {T : List (Addr × Str)} {C CB CP CY : Addr} {H H' : Hp} {y : Addr} {Y : Py} (g : Gr T none H H') (h : PyAt C CB CP CY H y Y) : PyAt C CB CP CY H' y Y := by
  obtain ⟨dx, vb, vp, st, pd, h1, h2, h3, h4, h5⟩ := h
  exact ⟨dx, vb, vp, st, pd, g.at h1, h2.gr g, h3.gr g, h4.gr g, h5.gr g⟩
def Py.step (Y : Py) (w : Str) : Py := { Y with s := Y.b.next Y.P Y.s w, paid := gAdd Y.paid (Y.b.cost Y.P Y.s w), n := Y.n + 1 }
/-- only y, a player or one that is being made, is written -/
def YF (fs : List (Str × V)) : Prop := ∀ p r, fs = p :: r → p.1 = "own_book"
structure Kp (y : Addr) (H H' : Hp) : Prop where
  x : ∀ b o, b ≠ y → H b = some o → H' b = some o
  i : ∃ C dx fs, H y = some (.ins C dx fs) ∧ YF fs
section
variable {C CB CP CY : Addr} {H H' : Hp} {y dx : Addr} {v vb vp st pd : V} {n : Int} {o : HO}
theorem YF.nil : YF [] := fun _ _ z => nomatch z
theorem YF.cons {v : V} {r : List (Str × V)} : YF (("own_book", v) :: r) := fun p r z => by
  cases z
  rfl
theorem Kp.upd {fs : List (Str × V)} (hy : H y = some (.ins CY dx fs)) (hf : YF fs) : Kp y H (upd H y o) := ⟨fun b u hb h => by rw [upd_ne hb]; exact h, _, _, _, hy, hf⟩
theorem Kp.at {b : Addr} (k : Kp y H H') (h : H b = some o) (n : ∀ C dx fs, o = .ins C dx fs → ∃ p r, fs = p :: r ∧ p.1 ≠ ("own_book" : Str) := by intro _ _ _ z; cases z) : H' b = some o := by
  obtain ⟨C, dx, fs, hy, hf⟩ := k.i
  refine k.x b o (fun z => ?_) h
  rw [z, hy] at h
  cases h
  obtain ⟨p, r, e, ne⟩ := n _ _ _ rfl
  exact ne (hf p r e)
theorem Sh.kp {q : Int × Int} (k : Kp y H H') (h : Sh C H v q) : Sh C H' v q := let ⟨a, d, h1, h2⟩ := h; ⟨a, d, h1, k.at h2 fun _ _ _ z => by cases z; exact ⟨_, _, rfl, by show ("own_top" : Str) ≠ "own_book"; decide +kernel⟩⟩
theorem StV.kp {s : BSt} (k : Kp y H H') (h : StV H v s) : StV H' v s := let ⟨t, m, h1, h2, h3⟩ := h; ⟨t, m, h1, k.at h2, k.at h3⟩
theorem BkAt.kp {b : Bk} (k : Kp y H H') (h : BkAt C CB H v b) : BkAt C CB H' v b := by
  obtain ⟨a, dx, d, rfl, ha, ⟨vo, vf, va, hd, h1, h2, h3⟩, ho⟩ := h
  refine ⟨a, dx, d, rfl, k.at ha (fun _ _ _ z => by cases z; exact ⟨_, _, rfl, by show ("settings" : Str) ≠ "own_book"; decide +kernel⟩), ⟨vo, vf, va, k.at hd, h1.kp k, h2.kp k, ?_⟩, ho⟩
  cases hb : b.after with
  | ever => rw [hb] at h3; exact h3
  | doubt q => rw [hb] at h3; obtain ⟨a, w, e1, e2, e3⟩ := h3; exact ⟨a, w, e1, k.at e2, e3.kp k⟩
  | look i => rw [hb] at h3; obtain ⟨a, e1, e2⟩ := h3; exact ⟨a, e1, k.at e2⟩
theorem PrAtS.kp {P : PrS} (k : Kp y H H') (h : PrAtS C CP H v P) : PrAtS C CP H' v P := by
  obtain ⟨x, dx, a, b, d, kvs, rfl, hx, ha, hb, hd, hk⟩ := h
  refine ⟨x, dx, a, b, d, kvs, rfl, k.at hx (fun _ _ _ z => by cases z; exact ⟨_, _, rfl, by show ("own_make" : Str) ≠ "own_book"; decide +kernel⟩), ha.kp k, hb.kp k, k.at hd, hk.1, fun i kv u e1 e2 => ?_⟩
  obtain ⟨q1, t, u, w, q2, q3, q4, q5⟩ := hk.2 i kv u e1 e2
  exact ⟨q1, t, u, w, q2, k.at q3, q4.kp k, q5.kp k⟩
end
theorem Gr.putI {T : List (Addr × Str)} {p : Option Addr} {H H1 : Hp} (g : Gr T p H H1) {x C dx : Addr} {fs : List (Str × V)} {o : HO} (n : H x = none) (hx : H1 x = some (.ins C dx fs)) : Gr T p H (upd H1 x o) :=
  ⟨fun b u hb h nt => by
    rw [upd_ne (ne_of_none h n)]
    exact g.x b u hb h nt, fun h => tabs_put (g.t h) hx (fun _ z => by cases z) (fun _ _ z => by cases z), fun b h => upd_free g.f h⟩
theorem Gr.putS {T : List (Addr × Str)} {H H1 : Hp} {x C dx : Addr} (g : Gr T (some x) H H1) {fs : List (Str × V)} {o : HO} (hx : H1 x = some (.ins C dx fs)) : Gr T (some x) H (upd H1 x o) :=
  ⟨fun b u hb h nt => by
    rw [upd_ne (fun z => hb (by rw [z]))]
    exact g.x b u hb h nt, fun h => tabs_put (g.t h) hx (fun _ z => by cases z) (fun _ _ z => by cases z), fun b h => upd_free g.f h⟩
structure PyC (Z : Cz) (CY : Addr) : Prop where
  cl : Cls Z.K CY
  nB : NoAttr Z.K CY "own_book"
  nP : NoAttr Z.K CY "own_prices"
  nS : NoAttr Z.K CY "own_state"
  nD : NoAttr Z.K CY "own_paid"
  nA : NoAttr Z.K CY "own_asked"
  mg : Z.mg "Player" = some (.ref CY)
def spChkB (C CB : Addr) : Sp := fun vs H Q _ => ∃ x b, vs = [x] ∧ BkAt C CB H x b ∧ Q .non H
def srtP (P : PrS) : PrS := ⟨P.md, P.gn, srtK P.ks⟩
def spCopied (T : List (Addr × Str)) (C CP : Addr) : Sp := fun vs H Q _ => ∃ x P, vs = [x] ∧ PrAtS C CP H x P ∧ PrG' P ∧ Tabs T H ∧ ∀ w H', Grow T H H' → PrAtS C CP H' w (srtP P) → (∀ a, w = .ref a → H a = none) → Q w H'
section
variable {Z : Cz} {f C CB CP CY : Addr} {fd : FuncData} {T0 : List (Addr × Str)}
theorem ok_chkB (F : Fun Z.K "check_book" "check_book" s_check_book f fd) (KB : BkC Z CB) (J : BkI Z CB) : Z.ok CX0 1 f fd ["book"] (spChkB C CB) := by
  refine F.ok sc_check_book (fun vs H Q E h => ?_) (fun cdv A outer s H vs Q E hr h => ?_)
  · obtain ⟨x, P, rfl, _⟩ := h
    rfl
  · obtain ⟨x, P, rfl, hx, k⟩ := h
    refine ⟨_, (pss_one (ps_if (pt_not (pt_val (pe_callB call_isi (by rfl) J.isi (by decide +kernel) (pa_cons (pv 0) (pa_cons (pe_glob (v := .ref CB) rfl KB.mg rfl) pa_nil)))))
      (pss_one ps_never)
      pss_nil)), ?_⟩
    obtain ⟨xa, dx, _, rfl, hx, _⟩ := hx
    exact ⟨_, rfl, _, _, _, _, true, rfl, .own CB, .base (.ins hx KB.cl J.ha J.hn J.htk J.hm), J.kCC, _, rfl, iteF k⟩
theorem KdAt.kn {H : Hp} {kvs : List (Key × V)} {ks : List (Str × Q2)} {d : Addr} (hd : H d = some (.dK kvs)) (h : KdAt C H kvs ks) : KnAt C H d ks := ⟨kvs, hd, h.1, fun i kv x h1 h2 => by
  obtain ⟨e, t, a, b, e1, e2, e3, e4⟩ := h.2 i kv x h1 h2
  exact ⟨e, t, a, b, e1, e2, .inl e3, .inl e4⟩⟩
theorem ok_copied (F : Fun Z.K "copied" "Prices.copied" s_Prices_copied f fd) (D : PrC Z CP) (c_Prices : CalC Z CX0 9 CP "Prices" ["self", "make", "general_make", "kinds"] [] (spPrices0 T0 C CP)) : Z.ok CX0 11 f fd ["self"] (spCopied T0 C CP) := by
  refine F.ok sc_Prices_copied (fun vs H Q E h => ?_) (fun cdv A outer s H vs Q E hr h => ?_)
  · obtain ⟨x, P, rfl, _⟩ := h
    rfl
  · obtain ⟨x, P, rfl, hx, g, hT, k⟩ := h
    refine ⟨_, (pss_one (ps_ret (pe_calC c_Prices hr (by rfl) pass0 (pa_cons (pe_fld (pv 0) rfl) (pa_cons (pe_fld (pv 0) rfl) (pa_cons (pe_fld (pv 0) rfl) pa_nil)))))), ?_⟩
    obtain ⟨xa, dx, a, b, d, kvs, rfl, hx, ha, hb, hd, hk⟩ := hx
    refine ⟨_, rfl, xa, CP, dx, _, _, rfl, hx, D.cl, D.nM, prF_m a b d, _, rfl, xa, CP, dx, _, _, rfl, hx, D.cl, D.nG, prF_g a b d, _, rfl, xa, CP, dx, _, _, rfl, hx, D.cl, D.nP, prF_p a b d, ?_⟩
    exact mk_prices hT (.inl ha) g.md (.inl hb) g.gn (hk.kn hd) g.ks fun w H' g1 hw nw => k w H' g1 hw nw
/-- the prices that the player at x keeps are not among H0's things -/
def PyFr (CY : Addr) (H0 H : Hp) (x : Addr) : Prop := ∃ dx fs vp, H x = some (.ins CY dx fs) ∧ fs.lookup ("own_prices" : Str) = some (.ref vp) ∧ H0 vp = none
def spPlayer (T : List (Addr × Str)) (C CB CP CY : Addr) : Sp := fun vs H Q _ => ∃ x dx vb vp b P H0, vs = [.ref x, vb, vp] ∧ H x = some (.ins CY dx []) ∧ Same H0 H ∧ H0 x = none ∧ Tabs T H0 ∧ BkAt C CB H0 vb b ∧ PrAtS C CP H0 vp P ∧ PrG' P ∧
  ∀ H', Grow T H0 H' → PyAt C CB CP CY H' x ⟨b, srtP P, b.begun false, (0, 1), 0⟩ → PyFr CY H0 H' x → Q .non H'
theorem ok_Player (F : Fun Z.K "__init__" "Player.__init__" s_Player_dd_init f fd) (Y : PyC Z CY) (c1 : CShare1 Z C) (c_check_book : Cal Z CX0 1 "check_book" ["book"] [] (spChkB C CB)) (c_check_prices : Cal Z CX0 1 "check_prices" ["prices"] [] (spChk0 C CP))
    (c_copied : CalM Z CX0 11 CP "copied" ["self"] [] (spCopied T0 C CP)) (c_start : CalM Z CX0 6 CB "start" ["self"] [] (spStart C CB)) : Z.ok CX0 12 f fd ["self", "book", "prices"] (spPlayer T0 C CB CP CY) := by
  refine F.ok sc_Player_dd_init (fun vs H Q E h => ?_) (fun cdv A outer s H vs Q E hr h => ?_)
  · obtain ⟨x, dx, vb, vp, b, P, H0, rfl, _⟩ := h
    rfl
  · obtain ⟨x, dx, vb, vp, b, P, H0, rfl, hx, e0, hx0, hT, hb, hP, g, k⟩ := h
    refine ⟨_, (pss_cons (ps_expr (pe_cal c_check_book (hr.mono (by decide)) (by rfl) pass0 (pa_cons (pv 1) pa_nil)))
      (pss_cons (ps_expr (pe_cal c_check_prices (hr.mono (by decide)) (by rfl) pass0 (pa_cons (pv 2) pa_nil)))
      (pss_cons (ps_fld (pv 0) (pv 1) rfl)
      (pss_cons (ps_fld (pv 0) (pe_calM0 c_copied (hr.mono (by decide)) pass0 (pv 2)) rfl)
      (pss_cons (ps_fld (pv 0) (pe_calM0 c_start (hr.mono (by decide)) pass0 (pv 1)) rfl)
      (pss_cons (ps_fld (pv 0) (pe_calC c1 (hr.mono (by decide)) (by rfl) pass0 (pa_cons pe_int pa_nil)) rfl)
      (pss_one (ps_fld (pv 0) pe_int rfl)))))))), ?_⟩
    refine ⟨_, rfl, vb, b, rfl, hb.mono e0, ?_⟩
    refine ⟨_, rfl, vp, P, rfl, hP.mono e0, ?_⟩
    -- the book
    refine ⟨_, rfl, _, rfl, x, CY, dx, [], rfl, hx, Y.cl, Y.nB, (by show 0 < 1000; decide), ?_⟩
    have k1 : Kp x H (upd H x (.ins CY dx (putF "own_book" vb []))) := .upd hx YF.nil
    have g1 : Gr T0 none H0 (upd H x (.ins CY dx (putF "own_book" vb []))) := (Gr.of e0).putI hx0 hx
    have hx1 : (upd H x (.ins CY dx (putF "own_book" vb []))) x = some (.ins CY dx [("own_book", vb)]) := upd_same
    have hb1 := (hb.mono e0).kp k1
    have hP1 := (hP.mono e0).kp k1
    generalize (upd H x (.ins CY dx (putF "own_book" vb []))) = H1 at k1 g1 hx1 hb1 hP1 ⊢
    -- the prices
    refine ⟨_, rfl, pr_meth hP1 (by decide) (by decide) (by decide) ⟨vp, P, rfl, hP1, g, g1.t hT, fun wp H2 g2 hp2 np2 => ?_⟩⟩
    refine ⟨_, rfl, x, CY, dx, _, rfl, g2.at hx1, Y.cl, Y.nP, (by show 1 < 1000; decide), ?_⟩
    have k3 : Kp x H2 (upd H2 x (.ins CY dx (putF "own_prices" wp [("own_book", vb)]))) := .upd (g2.at hx1) YF.cons
    have g3 : Gr T0 none H0 (upd H2 x (.ins CY dx (putF "own_prices" wp [("own_book", vb)]))) := (g1.trans g2).putI hx0 (g2.at hx1)
    have hx3 : (upd H2 x (.ins CY dx (putF "own_prices" wp [("own_book", vb)]))) x = some (.ins CY dx [("own_book", vb), ("own_prices", wp)]) := upd_same
    have hb3 := (hb1.gr g2).kp k3
    have hp3 := hp2.kp k3
    generalize (upd H2 x (.ins CY dx (putF "own_prices" wp [("own_book", vb)]))) = H3 at k3 g3 hx3 hb3 hp3 ⊢
    -- the state
    refine ⟨_, rfl, bk_meth hb3 (by decide) ⟨vb, b, rfl, hb3, fun sv H4 e4 hs4 => ?_⟩⟩
    refine ⟨_, rfl, x, CY, dx, _, rfl, e4 _ _ hx3, Y.cl, Y.nS, (by show 2 < 1000; decide), ?_⟩
    have k5 : Kp x H4 (upd H4 x (.ins CY dx (putF "own_state" sv [("own_book", vb), ("own_prices", wp)]))) := .upd (e4 _ _ hx3) YF.cons
    have g5 : Gr T0 none H0 (upd H4 x (.ins CY dx (putF "own_state" sv [("own_book", vb), ("own_prices", wp)]))) := (g3.trans (.of e4)).putI hx0 (e4 _ _ hx3)
    have hx5 : (upd H4 x (.ins CY dx (putF "own_state" sv [("own_book", vb), ("own_prices", wp)]))) x = some (.ins CY dx [("own_book", vb), ("own_prices", wp), ("own_state", sv)]) := upd_same
    have hb5 := (hb3.mono e4).kp k5
    have hp5 := (hp3.mono e4).kp k5
    have hs5 := hs4.kp k5
    generalize (upd H4 x (.ins CY dx (putF "own_state" sv [("own_book", vb), ("own_prices", wp)]))) = H5 at k5 g5 hx5 hb5 hp5 hs5 ⊢
    -- paid
    refine fun sa da hsa hda hne => ?_
    refine mk_shI (by decide) (by decide +kernel) hsa hda hne fun H6 e6 z6 => ⟨rfl, ?_⟩
    refine ⟨_, rfl, x, CY, dx, _, rfl, e6 _ _ hx5, Y.cl, Y.nD, (by show 3 < 1000; decide), ?_⟩
    have k7 : Kp x H6 (upd H6 x (.ins CY dx (putF "own_paid" (.ref sa) [("own_book", vb), ("own_prices", wp), ("own_state", sv)]))) := .upd (e6 _ _ hx5) YF.cons
    have g7 : Gr T0 none H0 (upd H6 x (.ins CY dx (putF "own_paid" (.ref sa) [("own_book", vb), ("own_prices", wp), ("own_state", sv)]))) := (g5.trans (.of e6)).putI hx0 (e6 _ _ hx5)
    have hx7 : (upd H6 x (.ins CY dx (putF "own_paid" (.ref sa) [("own_book", vb), ("own_prices", wp), ("own_state", sv)]))) x = some (.ins CY dx [("own_book", vb), ("own_prices", wp), ("own_state", sv), ("own_paid", .ref sa)]) := upd_same
    have hb7 := (hb5.mono e6).kp k7
    have hp7 := (hp5.mono e6).kp k7
    have hs7 := (hs5.mono e6).kp k7
    have hd7 := z6.kp k7
    generalize (upd H6 x (.ins CY dx (putF "own_paid" (.ref sa) [("own_book", vb), ("own_prices", wp), ("own_state", sv)]))) = H7 at k7 g7 hx7 hb7 hp7 hs7 hd7 ⊢
    -- asked
    refine ⟨_, rfl, x, CY, dx, _, rfl, hx7, Y.cl, Y.nA, (by show 4 < 1000; decide), ?_⟩
    have k8 : Kp x H7 (upd H7 x (.ins CY dx (putF "own_asked" (.int 0) [("own_book", vb), ("own_prices", wp), ("own_state", sv), ("own_paid", .ref sa)]))) := .upd hx7 YF.cons
    obtain ⟨wa, _, _, _, _, _, ew, _⟩ := id hp7
    subst ew
    exact k _ (g7.putI hx0 hx7) ⟨dx, vb, .ref wa, sv, .ref sa, upd_same, hb7.kp k8, hp7.kp k8, hs7.kp k8, hd7.kp k8⟩ ⟨dx, _, wa, upd_same, rfl, g1.f _ (np2 wa rfl)⟩
/-! asks -/
def spPyCall (T : List (Addr × Str)) (C CB CP CY : Addr) : Sp := fun vs H Q _ => ∃ y w Y, vs = [.ref y, .str w] ∧ PyAt C CB CP CY H y Y ∧ PrG' Y.P ∧ Y.b.wf Y.P Y.s ∧ w ∈ Y.P.ks.map (·.1) ∧ Sz 2000 Y.paid ∧ Sz 2000 (Y.b.cost Y.P Y.s w) ∧ Tabs T H ∧
  ∀ t c H', Gr T (some y) H H' → PyAt C CB CP CY H' y (Y.step w) → H' t = some (.tup [plV (Y.b.isOwn Y.s), c]) → Sh C H' c (Y.b.cost Y.P Y.s w) → Q (.ref t) H'
theorem ok_PyCall (F : Fun Z.K "__call__" "Player.__call__" s_Player_dd_call f fd) (Y : PyC Z CY) (S : ShS Z C) (ch : CalS Z CX0 2 CP "__contains__" ["self", "word"] (spPrHas Z.K C CP)) (c_taken : CalM Z CX0 9 CB "taken" ["self", "prices", "state", "kind"] [] (spTaken T0 C CB CP)) :
    Z.ok CX0 10 f fd ["self", "kind"] (spPyCall T0 C CB CP CY) := by
  refine F.ok sc_Player_dd_call (fun vs H Q E h => ?_) (fun cdv A outer s H vs Q E hr h => ?_)
  · obtain ⟨y, w, Y, rfl, _⟩ := h
    rfl
  · obtain ⟨y, w, Yy, rfl, hy, g, hwf, hw, z1, z2, hT, k⟩ := h
    obtain ⟨dx, vb, vp, st, pd, hy, hb, hP, hs, hd⟩ := hy
    refine ⟨_, (pss_cons (ps_if (pt_cmpR (op_notInO ch (hr.mono (by decide))) (pv 1) (pe_fld (pv 0) rfl) (by rfl))
      (pss_one ps_never)
      pss_nil)
      (pss_cons (ps_asg (pe_calM c_taken (hr.mono (by decide)) pass0 (pe_fld (pv 0) rfl) (pa_cons (pe_fld (pv 0) rfl) (pa_cons (pe_fld (pv 0) rfl) (pa_cons (pv 1) pa_nil)))) (pg_tup (by rfl) (pgs_cons (pg_name (i := 2) sc_Player_dd_call.nd rfl (Or.inl rfl)) (pgs_cons (pg_name (i := 3) sc_Player_dd_call.nd rfl (Or.inl rfl)) (pgs_cons (pg_name (i := 4) sc_Player_dd_call.nd rfl (Or.inl rfl)) pgs_nil)))))
      (pss_cons (ps_fld (pv 0) (pv 4) rfl)
      (pss_cons (ps_fld (pv 0) (pe_op (op_num (op := .Add) S.add S.na (hr.mono (by decide)) pass0) (pe_fld (pv 0) rfl) (pv 3)) rfl)
      (pss_cons (ps_fldaug (pv 0) pe_int (iop_add))
      (pss_one (ps_ret (pe_tup (pa_cons (pv 2) (pa_cons (pv 3) pa_nil)))))))))), ?_⟩
    refine ⟨_, rfl, _, rfl, y, CY, dx, _, _, rfl, hy, Y.cl, Y.nP, rfl, pr_ins hP, _, _, Yy.P, rfl, hP, g.ks, .inl ⟨w, lkP Yy.P w, rfl, kind_in g.ks hw, fun H1 e1 => ⟨true, rfl, _, rfl, iteF ?_⟩⟩⟩
    have hy1 := e1 _ _ hy
    have hb1 := hb.mono e1
    have hP1 := hP.mono e1
    have hs1 := hs.mono e1
    refine ⟨_, rfl, y, CY, dx, _, _, rfl, hy1, Y.cl, Y.nB, rfl, bk_meth hb1 (by decide) ⟨_, rfl, y, CY, dx, _, _, rfl, hy1, Y.cl, Y.nP, rfl, _, rfl, y, CY, dx, _, _, rfl, hy1, Y.cl, Y.nS, rfl, _, rfl, vb, vp, st, Yy.b, Yy.P, Yy.s, w, rfl, hb1, hP1, g, hs1, hwf, hw, hT.ext e1, fun v H2 g2 htk => ?_⟩⟩
    obtain ⟨t, c, sv, rfl, ht, hc, hsv⟩ := htk
    refine ⟨t, _, rfl, SqT.of ht, rfl, _, _, rfl, _, _, rfl, _, _, rfl, rfl, ?_⟩
    have g12 : Gr T0 none H H2 := (Gr.of e1).trans g2
    have hy2 := g12.at hy
    -- the state
    refine ⟨_, rfl, _, rfl, y, CY, dx, _, rfl, hy2, Y.cl, Y.nS, (by show 5 < 1000; decide), ?_⟩
    have k3 : Kp y H2 (upd H2 y (.ins CY dx (putF "own_state" sv (pyF vb vp st pd Yy.n)))) := .upd hy2 YF.cons
    have g3 : Gr T0 (some y) H (upd H2 y (.ins CY dx (putF "own_state" sv (pyF vb vp st pd Yy.n)))) := (Gr.up g12).putS hy2
    have hy3 : (upd H2 y (.ins CY dx (putF "own_state" sv (pyF vb vp st pd Yy.n)))) y = some (.ins CY dx (pyF vb vp sv pd Yy.n)) := upd_same
    have hb3 := (hb.gr g12).kp k3
    have hP3 := (hP.gr g12).kp k3
    have hs3 := hsv.kp k3
    have hd3 := (hd.gr g12).kp k3
    have hc3 := hc.kp k3
    generalize (upd H2 y (.ins CY dx (putF "own_state" sv (pyF vb vp st pd Yy.n)))) = H3 at k3 g3 hy3 hb3 hP3 hs3 hd3 hc3 ⊢
    -- paid
    refine ⟨_, rfl, y, CY, dx, _, _, rfl, hy3, Y.cl, Y.nD, rfl, _, rfl, hd3.ins, .inl hc3.ins, _, _, _, _, rfl, hd3, .inl hc3, z1.up (by decide), z2.up (by decide), fun v4 H4 e4 hv4 => ?_⟩
    have hy4 := e4 _ _ hy3
    refine ⟨_, rfl, y, CY, dx, _, rfl, hy4, Y.cl, Y.nD, (by show 5 < 1000; decide), ?_⟩
    have k5 : Kp y H4 (upd H4 y (.ins CY dx (putF "own_paid" v4 (pyF vb vp sv pd Yy.n)))) := .upd hy4 YF.cons
    have g5 : Gr T0 (some y) H (upd H4 y (.ins CY dx (putF "own_paid" v4 (pyF vb vp sv pd Yy.n)))) := (g3.trans (.of e4)).putS hy4
    have hy5 : (upd H4 y (.ins CY dx (putF "own_paid" v4 (pyF vb vp sv pd Yy.n)))) y = some (.ins CY dx (pyF vb vp sv v4 Yy.n)) := upd_same
    have hb5 := (hb3.mono e4).kp k5
    have hP5 := (hP3.mono e4).kp k5
    have hs5 := (hs3.mono e4).kp k5
    have hd5 := hv4.kp k5
    have hc5 := (hc3.mono e4).kp k5
    generalize (upd H4 y (.ins CY dx (putF "own_paid" v4 (pyF vb vp sv pd Yy.n)))) = H5 at k5 g5 hy5 hb5 hP5 hs5 hd5 hc5 ⊢
    -- asked
    refine ⟨_, rfl, y, CY, dx, _, _, rfl, hy5, Y.cl, Y.nA, rfl, _, _, rfl, rfl, dx, _, hy5, (by show 5 < 1000; decide), ?_⟩
    have k6 : Kp y H5 (upd H5 y (.ins CY dx (putF "own_asked" (.int (Yy.n + 1)) (pyF vb vp sv v4 Yy.n)))) := .upd hy5 YF.cons
    have g6 : Gr T0 (some y) H (upd H5 y (.ins CY dx (putF "own_asked" (.int (Yy.n + 1)) (pyF vb vp sv v4 Yy.n)))) := g5.putS hy5
    have hy6 : (upd H5 y (.ins CY dx (putF "own_asked" (.int (Yy.n + 1)) (pyF vb vp sv v4 Yy.n)))) y = some (.ins CY dx (pyF vb vp sv v4 (Yy.n + 1))) := upd_same
    have hb6 := hb5.kp k6
    have hP6 := hP5.kp k6
    have hs6 := hs5.kp k6
    have hd6 := hd5.kp k6
    have hc6 := hc5.kp k6
    generalize (upd H5 y (.ins CY dx (putF "own_asked" (.int (Yy.n + 1)) (pyF vb vp sv v4 Yy.n)))) = H6 at k6 g6 hy6 hb6 hP6 hs6 hd6 hc6 ⊢
    refine ⟨_, rfl, _, rfl, (by show 2 ≤ sizeLine; decide), fun t7 ht7 => ?_⟩
    have e7 := Same.upd (o := .tup [plV (Yy.b.isOwn Yy.s), c]) ht7
    exact k t7 c _ (g6.trans (.of e7)) ⟨dx, vb, vp, sv, v4, e7 _ _ hy6, hb6.mono e7, hP6.mono e7, hs6.mono e7, hd6.mono e7⟩ upd_same (hc6.mono e7)
/-! what a player tells -/
def spPyProp (C CB CP CY : Addr) (R : Py → V → Hp → Prop) : Sp := fun vs H Q _ => ∃ y Y, vs = [.ref y] ∧ PyAt C CB CP CY H y Y ∧ ∀ v, R Y v H → Q v H
theorem ok_PyState (F : Fun Z.K "state" "Player.state" s_Player_state f fd) (Y : PyC Z CY) : Z.ok CX0 1 f fd ["self"] (spPyProp C CB CP CY fun Y v H => StV H v Y.s) := by
  refine F.ok sc_Player_state (fun vs H Q E h => ?_) (fun cdv A outer s H vs Q E hr h => ?_)
  · obtain ⟨y, Yy, rfl, _⟩ := h
    rfl
  · obtain ⟨y, Yy, rfl, ⟨dx, vb, vp, st, pd, hy, hb, hP, hs, hd⟩, k⟩ := h
    refine ⟨_, (pss_one (ps_ret (pe_fld (pv 0) rfl))), ?_⟩
    exact ⟨_, rfl, y, CY, dx, _, _, rfl, hy, Y.cl, Y.nS, rfl, k st hs⟩
def spPyPlan (C CB CP CY : Addr) : Sp := fun vs H Q _ => ∃ y Y, vs = [.ref y] ∧ PyAt C CB CP CY H y Y ∧ Y.b.wf Y.P Y.s ∧ Q (plV (Y.b.isOwn Y.s)) H
theorem ok_PyPlan (F : Fun Z.K "plan" "Player.plan" s_Player_plan f fd) (Y : PyC Z CY) (c_plan_of : CalM Z CX0 4 CB "plan_of" ["self", "state"] [] (spPlanOf C CB)) : Z.ok CX0 5 f fd ["self"] (spPyPlan C CB CP CY) := by
  refine F.ok sc_Player_plan (fun vs H Q E h => ?_) (fun cdv A outer s H vs Q E hr h => ?_)
  · obtain ⟨y, Yy, rfl, _⟩ := h
    rfl
  · obtain ⟨y, Yy, rfl, ⟨dx, vb, vp, st, pd, hy, hb, hP, hs, hd⟩, hw, k⟩ := h
    refine ⟨_, (pss_one (ps_ret (pe_calM c_plan_of (hr.mono (by decide)) pass0 (pe_fld (pv 0) rfl) (pa_cons (pe_fld (pv 0) rfl) pa_nil)))), ?_⟩
    exact ⟨_, rfl, y, CY, dx, _, _, rfl, hy, Y.cl, Y.nB, rfl, bk_meth hb (by decide) ⟨_, rfl, y, CY, dx, _, _, rfl, hy, Y.cl, Y.nS, rfl, vb, Yy.b, st, Yy.s, Yy.P, rfl, hb, hs, hw, k⟩⟩
/-- a method of a player -/
theorem py_meth {H : Hp} {y : Addr} {Y : Py} {m : Str} {R : Prop} (h : PyAt C CB CP CY H y Y) (hm : ∀ vb vp st pd n, (pyF vb vp st pd n).lookup m = none) (k : R) : ∃ a dx fs, V.ref y = V.ref a ∧ H a = some (.ins CY dx fs) ∧ fs.lookup m = none ∧ R := by
  obtain ⟨dx, vb, vp, st, pd, hy, _⟩ := h
  exact ⟨y, dx, _, rfl, hy, hm _ _ _ _ _, k⟩
theorem py_prop {R : Py → V → Hp → Prop} {H : Hp} {y : Addr} {Y : Py} {Q : VK} (h : PyAt C CB CP CY H y Y) (k : ∀ v, R Y v H → Q v H) : ∃ a dx fs, V.ref y = V.ref a ∧ H a = some (.ins CY dx fs) ∧ spPyProp C CB CP CY R (.ref a :: []) H Q E0 := by
  have h' := h
  obtain ⟨dx, vb, vp, st, pd, hy, _⟩ := h
  exact ⟨y, dx, _, rfl, hy, y, Y, rfl, h', k⟩
end
end Ps

/-! The laws' own states: behind the general plan, steps. -/
namespace Ps
open PySem PySem.Spec PyProof.Rows PySem.W L2 LamX

theorem doubt_b {q : Int × Int} (h : q ∈ doubts) : 1 ≤ q.1 ∧ q.1 ≤ 10 ∧ 1 ≤ q.2 ∧ q.2 ≤ 2 := by
  simp only [doubts, List.mem_cons, List.not_mem_nil, or_false] at h
  rcases h with rfl | rfl | rfl | rfl | rfl <;> decide
section
variable {Z : Cz} {f C CB CP : Addr} {fd : FuncData} {T0 : List (Addr × Str)}
end
end Ps

/-! The laws' own plans of books, drawn without counting. -/
namespace Ps
open PySem PySem.Spec PyProof.Rows PySem.W L2 LamX

theorem Pl.at_ {H : Hp} {p q : Addr} {ms : List Int} (h : Pl H p q ms) : H p = some (.lst [.ref q, .int ((h.1.choose : Nat) : Int)]) := h.1.choose_spec
theorem Pl.nums {H : Hp} {p q : Addr} {ms : List Int} (h : Pl H p q ms) : H q = some (.lst (ms.map V.int)) := h.2
theorem Pl.mono {H H' : Hp} {p q : Addr} {ms : List Int} (e : Same H H') (h : Pl H p q ms) : Pl H' p q ms := let ⟨⟨i, h1⟩, h2⟩ := h; ⟨⟨i, e _ _ h1⟩, e _ _ h2⟩
theorem Pl.put {H : Hp} {p q l : Addr} {ms : List Int} {o : HO} (h : Pl H p q ms) (h1 : l ≠ p) (h2 : l ≠ q) : Pl (upd H l o) p q ms := let ⟨⟨i, e1⟩, e2⟩ := h; ⟨⟨i, by rw [upd_ne h1.symm]; exact e1⟩, by rw [upd_ne h2.symm]; exact e2⟩
/-- all but the pool stays: what Gp asks -/
theorem Keep.gp {T : List (Addr × Str)} {H H' : Hp} {p q : Addr} {ms : List Int} (k : Keep p H H') (h : Pl H p q ms) (h' : Pl H' p q ms) : Gp T p q ms H H' := by
  refine ⟨⟨fun b o hb e _ => k b (fun z => hb (by rw [z])) o e, fun t m hm => ?_, fun b hb => ?_⟩, fun _ => h'⟩
  · obtain ⟨ps, e1, e2, e3⟩ := t m hm
    have hp := h.at_
    refine ⟨ps, k _ (fun z => by rw [z, hp] at e1; cases e1) _ e1, e2, fun pos cv hc => ?_⟩
    obtain ⟨c, z1, z2⟩ := e3 pos cv hc
    exact ⟨c, z1, k _ (fun z => by rw [z, hp] at z2; cases z2) _ z2⟩
  · cases e : H b with
    | none => rfl
    | some o =>
      by_cases z : b = p
      · subst z
        rw [h'.at_] at hb
        cases hb
      · rw [k b z o e] at hb
        cases hb
/-- a draw -/
def spDrK : Sp := fun vs H Q _ => ∃ (p q : Addr) (ms : List Int) (n : Int), vs = [.ref p, .int n] ∧ Pl H p q ms ∧ 0 < n ∧ ∀ r H', 0 ≤ r → r < n → (∀ b, b ≠ p → H' b = H b) → Pl H' p q ms → Q (.int r) H'
abbrev CDrawK (Z : Cz) : Prop := Cal Z CX0 1 "_law_draw" ["_law_pool_here", "_law_many"] [] spDrK
def spLAfterK : Sp := fun vs H Q _ => ∃ (p q : Addr) (ms : List Int), vs = [.ref p] ∧ Pl H p q ms ∧ ∀ v H' a, Keep p H H' → Pl H' p q ms → PAfV H' v a → PAfOk a → Q v H'
def spLPlanK : Sp := fun vs H Q _ => ∃ (p q : Addr) (ms : List Int) (m : Int), vs = [.ref p, .int m] ∧ Pl H p q ms ∧ 0 ≤ m ∧ m ≤ 6 ∧
  ∀ a H' pl vf va, Keep p H H' → H a = none → Pl H' p q ms → PlAt H' a pl vf va → PlOk pl → Q (.ref a) H'
section
variable {Z : Cz} {f C CB : Addr} {fd : FuncData}
theorem ok_drK (F : Fun Z.K "_law_draw" "_law_draw" s_lw_draw f fd) (T : DrT Z) : Z.ok CX0 1 f fd ["_law_pool_here", "_law_many"] spDrK := by
  refine F.ok sc_lw_draw (fun vs H Q E h => ?_) (fun cdv A outer s H vs Q E hr h => ?_)
  · obtain ⟨p, q, ms, n, rfl, _⟩ := h
    rfl
  · obtain ⟨p, q, ms, n, rfl, hP, hn, k⟩ := h
    have hne := hP.ne
    obtain ⟨⟨i, h1⟩, h2⟩ := hP
    refine ⟨_, (pss_cons (ps_set (i := 2) sc_lw_draw.nd rfl (Or.inl rfl) (pe_ix ix_list (pv 0) pe_int (fun _ _ => rfl)))
      (pss_cons (ps_asg (pe_op op_add (pv 2) pe_int) (pg_sub (pv 0) pe_int set_list))
      (pss_one (ps_ret (pe_ifExp (pt_cmpR op_lt (pv 2) (pe_callB call_len_seq (by rfl) T.len PySem.boot_len (pa_cons (pe_ix ix_list (pv 0) pe_int (fun _ _ => rfl)) pa_nil)) (nomark _)) (pe_op op_mod (pe_int1 (by rfl) T.int (pe_ix ix_list (pe_ix ix_list (pv 0) pe_int (fun _ _ => rfl)) (pv 2) (fun _ _ => rfl))) (pv 1)) pe_int))))), ?_⟩
    refine ⟨_, rfl, p, _, _, _, rfl, rfl, SqL.of h1, rfl, ?_⟩
    refine ⟨_, rfl, _, _, rfl, rfl, _, rfl, p, _, _, 1, rfl, rfl, h1, rfl, ?_⟩
    have hu : (upd H p (.lst [.ref q, .int ((i : Int) + 1)])) p = some (.lst [.ref q, .int ((i : Int) + 1)]) := upd_same
    have hq : (upd H p (.lst [.ref q, .int ((i : Int) + 1)])) q = some (.lst (ms.map V.int)) := by rw [upd_ne hne]; exact h2
    have hG : Pl (upd H p (.lst [.ref q, .int ((i : Int) + 1)])) p q ms := ⟨⟨i + 1, hu⟩, hq⟩
    have hE : ∀ b, b ≠ p → (upd H p (.lst [.ref q, .int ((i : Int) + 1)])) b = H b := fun b hb => upd_ne hb
    refine ⟨_, rfl, _, rfl, p, _, _, _, rfl, rfl, SqL.of hu, rfl, q, _, rfl, .inl (SqL.of hq), _, _, rfl, rfl, _, rfl, iteD (fun hlt => ?_) (fun hge => ?_)⟩
    · rw [List.length_map] at hlt
      have hlt' : i < ms.length := by omega
      refine ⟨_, rfl, p, _, _, _, rfl, rfl, SqL.of hu, rfl, _, rfl, q, _, _, V.int ms[i], rfl, rfl, SqL.of hq, ?_, _, rfl, _, rfl, _, _, rfl, rfl, hn, ?_⟩
      · exact atI_nat (by rw [List.getElem?_map, List.getElem?_eq_getElem hlt']; rfl)
      · exact k _ _ (Int.emod_nonneg _ (by omega)) (Int.emod_lt_of_pos _ hn) hE hG
    · exact k 0 _ (Int.le_refl 0) hn hE hG
end
end Ps

/-! What a step of a law keeps: the pool apart from all else. -/
namespace Ps
open PySem PySem.Spec PyProof.Rows PySem.W L2 LamX

def spLawT (K : Frag) (T : List (Addr × Str)) : Sp := fun vs H Q _ => ∃ (a : Addr) (ns : List Int), vs = [.ref a] ∧ SqL K H a (ns.map V.int) ∧ ns.length ≤ 63 ∧ Tabs T H ∧ ∀ H', Q (.bl true) H'
section
variable {T : List (Addr × Str)} {p q : Addr} {ms : List Int} {H H1 H2 : Hp}
theorem notp {x : Addr} {xs : List V} (hP : Pl H p q ms) (hx : H x = some (.lst xs)) (h : ∀ (r : Addr) (i : Int), xs ≠ [.ref r, .int i]) : x ≠ p := fun z => by
  obtain ⟨⟨i, hp⟩, _⟩ := hP
  rw [z, hp] at hx
  exact h q i (HO.lst.inj (Option.some.inj hx)).symm
theorem notp_ints {ns : List Int} (r : Addr) (i : Int) : ns.map V.int ≠ [.ref r, .int i] := fun z => by
  cases ns with
  | nil => cases z
  | cons n r => cases (List.cons.inj z).1
theorem notp_strs {ns : List Str} (r : Addr) (i : Int) : ns.map V.str ≠ [.ref r, .int i] := fun z => by
  cases ns with
  | nil => cases z
  | cons n r => cases (List.cons.inj z).1
/-- the script is not the pool -/
theorem sq_gp {K : Frag} {a : Addr} {xs : List V} (hp : H p = none) (e : Same H H1) (g : Gp T p q ms H1 H2) (h : SqL K H a xs) : SqL K H2 a xs := by
  rcases h with (h | ⟨o, h⟩) | h
  · exact .inl (.inl (g.at (e _ _ h) (ne_of_none h hp)))
  · exact .inl (.inr ⟨o, g.at (e _ _ h) (ne_of_none h hp)⟩)
  · exact .inr h
/-- what is no list stays -/
theorem Gp.ob (g : Gp T p q ms H H1) (hP : Pl H p q ms) {b : Addr} {o : HO} (h : H b = some o) (n : ∀ xs, o ≠ .lst xs := by intro _ z; cases z) (nt : ∀ ps, o ≠ .tbl ps := by intro _ z; cases z) : H1 b = some o :=
  g.at h (fun z => by
    obtain ⟨⟨i, hp⟩, _⟩ := hP
    rw [z, hp] at h
    exact n _ (Option.some.inj h).symm) nt
theorem Gp.strs (g : Gp T p q ms H H1) (hP : Pl H p q ms) {b : Addr} {ws : List Str} (h : H b = some (.lst (ws.map V.str))) : H1 b = some (.lst (ws.map V.str)) := g.at h (notp hP h notp_strs)
theorem Gp.ints (g : Gp T p q ms H H1) (hP : Pl H p q ms) {b : Addr} {ws : List Int} (h : H b = some (.lst (ws.map V.int))) : H1 b = some (.lst (ws.map V.int)) := g.at h (notp hP h notp_ints)
theorem PrAt.gp {v : V} {P : PrD} (g : Gp T p q ms H H1) (hP : Pl H p q ms) (h : PrAt H v P) : PrAt H1 v P := by
  obtain ⟨d, k, kvs, rfl, h1, h2, h3⟩ := h
  exact ⟨d, k, kvs, rfl, g.ob hP h1, g.ob hP h2, h3.gp g hP⟩
end
/-- how many cells are looked at -/
theorem many_cells (ns : List Int) (m : Nat) (hm : 1 ≤ m) : ∃ n6 : Nat, (if (if (m : Int) < ((ns.map V.int).length : Nat) then (m : Int) else ((ns.map V.int).length : Nat)) > 1 then (if (m : Int) < ((ns.map V.int).length : Nat) then (m : Int) else ((ns.map V.int).length : Nat)) else 1) = (n6 : Int) ∧ (n6 ≤ ns.length ∨ (ns = [] ∧ n6 = 1)) ∧ n6 ≤ m := by
  rw [List.length_map]
  cases ns with
  | nil =>
    refine ⟨1, ?_, .inr ⟨rfl, rfl⟩, hm⟩
    rw [if_neg (show ¬ (m : Int) < ((([] : List Int).length : Nat) : Int) from by simp), if_neg (by decide)]
    rfl
  | cons x r =>
    by_cases h : (m : Int) < ((x :: r).length : Nat)
    · rw [if_pos h]
      refine ⟨m, ?_, .inl (by omega), by omega⟩
      by_cases h1 : (m : Int) > 1
      · rw [if_pos h1]
      · rw [if_neg h1]
        omega
    · rw [if_neg h]
      refine ⟨(x :: r).length, ?_, .inl (Nat.le_refl _), by omega⟩
      by_cases h1 : (((x :: r).length : Nat) : Int) > 1
      · rw [if_pos h1]
      · rw [if_neg h1]
        have : (x :: r).length ≥ 1 := by simp
        omega
end Ps

/-! Books, prices, states, kept by draws; == of states and of what a step tells. -/
namespace Ps
open PySem PySem.Spec PyProof.Rows PySem.W L2 LamX

section
variable {T : List (Addr × Str)} {p q : Addr} {ms : List Int} {H H1 H2 : Hp}
theorem StV.gp {v : V} {s : BSt} (g : Gp T p q ms H H1) (hP : Pl H p q ms) (h : StV H v s) : StV H1 v s := let ⟨t, m, h1, h2, h3⟩ := h; ⟨t, m, h1, g.ob hP h2, g.ob hP h3⟩
theorem Sh.gp {C : Addr} {v : V} {r : Int × Int} (g : Gp T p q ms H H1) (hP : Pl H p q ms) (h : Sh C H v r) : Sh C H1 v r := let ⟨a, dx, h1, h2⟩ := h; ⟨a, dx, h1, g.ob hP h2⟩
theorem PlAt.gp {a : Addr} {pl : Plan} {vf va : V} (g : Gp T p q ms H H1) (hP : Pl H p q ms) (h : PlAt H a pl vf va) : PlAt H1 a pl vf va := ⟨g.ob hP h.d, h.f.mono fun b xs e => g.ob hP e, h.a.mono fun b xs e => g.ob hP e⟩
theorem BkAt.gp {C CB : Addr} {v : V} {b : Bk} (g : Gp T p q ms H H1) (hP : Pl H p q ms) (h : BkAt C CB H v b) : BkAt C CB H1 v b := by
  obtain ⟨a, dx, d, rfl, ha, ⟨vo, vf, va, hd, h1, h2, h3⟩, ho⟩ := h
  refine ⟨a, dx, d, rfl, g.ob hP ha, ⟨vo, vf, va, g.ob hP hd, h1.gp g hP, h2.gp g hP, ?_⟩, ho⟩
  cases hb : b.after with
  | ever => rw [hb] at h3; exact h3
  | doubt q => rw [hb] at h3; obtain ⟨a, w, e1, e2, e3⟩ := h3; exact ⟨a, w, e1, g.ob hP e2, e3.gp g hP⟩
  | look i => rw [hb] at h3; obtain ⟨a, e1, e2⟩ := h3; exact ⟨a, e1, g.ob hP e2⟩
theorem PrAtS.gp {C CP : Addr} {v : V} {P : PrS} (g : Gp T p q ms H H1) (hP : Pl H p q ms) (h : PrAtS C CP H v P) : PrAtS C CP H1 v P := by
  obtain ⟨x, dx, a, b, d, kvs, rfl, hx, ha, hb, hd, hk⟩ := h
  refine ⟨x, dx, a, b, d, kvs, rfl, g.ob hP hx, ha.gp g hP, hb.gp g hP, g.ob hP hd, hk.1, fun i kv y e1 e2 => ?_⟩
  obtain ⟨q1, t, u, w, q2, q3, q4, q5⟩ := hk.2 i kv y e1 e2
  exact ⟨q1, t, u, w, q2, g.ob hP q3, q4.gp g hP, q5.gp g hP⟩
end
/-! == of states, and of what a step tells -/
abbrev dS2 (K : Frag) : Eqb := fun x y b H => DFl x y b H ∨ DTupB K DFl x y b H
abbrev dS3 (K : Frag) : Eqb := DTupB K (dS2 K)
abbrev dS4 (K : Frag) (C : Addr) : Eqb := fun x y b H => dIn C x y b H ∨ dS3 K x y b H
theorem mon_S2 {K : Frag} : MonB (dS2 K) := MonB.or mon_fl (mon_tupB mon_fl)
theorem mon_S4 {K : Frag} {C : Addr} : MonB (dS4 K C) := MonB.or mon_in (mon_tupB mon_S2)
section
variable {Z : Cz} {X : Cx} {C : Addr}
theorem eqB_S2 (z : InZ Z X) : EqB X 1 (dS2 Z.K) := by
  have h := eqB_tup (X := X) mon_fl eqB_fl
  rw [z.K] at h
  exact EqB.or (eqB_fl.mono (Nat.zero_le _)) h
theorem eqB_S4 (M : CalS Z CX0 6 C "__eq__" ["self", "other"] (spShEq Z.K C)) (z : InZ Z X) : EqB X 6 (dS4 Z.K C) := by
  have h := eqB_tup (X := X) mon_S2 (eqB_S2 z)
  rw [z.K] at h
  exact EqB.or (EqB.or (eqB_fl.mono (Nat.zero_le _)) (eqB_own M sh_sp z)) (h.mono (by decide))
end
theorem eqV_self {x : V} (h : flatV x = true) : eqV x x = true := by
  cases x with
  | non => rfl
  | bl b => cases b <;> rfl
  | int i => exact beq_self_eq_true i
  | str z => exact beq_self_eq_true z
  | _ => exact absurd (show false = true from h) (by decide)
theorem prs_flat {H : Hp} : ∀ {xs : List V}, (∀ x ∈ xs, flatV x = true) → PrsB DFl H xs xs true
  | [], _ => .nil
  | x :: r, h => .yes ⟨h x (List.mem_cons_self ..), h x (List.mem_cons_self ..), (eqV_self (h x (List.mem_cons_self ..))).symm⟩ (prs_flat fun y hy => h y (List.mem_cons_of_mem _ hy))
theorem mem_flat (s : BSt) : ∀ x ∈ s.mem, flatV x = true := by
  cases s with
  | own k m =>
    intro x hx
    obtain ⟨z, _, rfl⟩ := List.mem_map.mp hx
    rfl
  | gen k c =>
    cases c with
    | none => intro x hx; cases hx
    | some n => intro x hx; rw [List.mem_singleton.mp hx]; rfl
theorem st_eq {K : Frag} {H : Hp} {v u : V} {s : BSt} (h1 : StV H v s) (h2 : StV H u s) : dS3 K v u true H := by
  obtain ⟨t, m, rfl, ht, hm⟩ := h1
  obtain ⟨t', m', rfl, ht', hm'⟩ := h2
  refine ⟨t, t', _, _, rfl, rfl, SqT.of ht, SqT.of ht', .yes (.inl ⟨rfl, rfl, (eqV_self rfl).symm⟩) (.yes (.inl ⟨rfl, rfl, (eqV_self rfl).symm⟩) (.yes (.inr ⟨m, m', _, _, rfl, rfl, SqT.of hm, SqT.of hm', prs_flat (mem_flat s), fun _ => rfl⟩) .nil)), fun _ => rfl⟩
theorem sh_eq {C : Addr} {H : Hp} {x y : V} {r : Int × Int} (h1 : Sh C H x r) (h2 : Sh C H y r) (z : Sz 4000 r) : dIn C x y true H := by
  have h := own_sh h1 h2 z z
  rw [decide_eq_true (show gMin r r = 0 by unfold gMin; omega)] at h
  exact .inr h
theorem tk_eq {K : Frag} {C : Addr} {H : Hp} {t t' : Addr} {own : Bool} {c c' st st' : V} {r : Int × Int} {s : BSt} (h : H t = some (.tup [plV own, c, st])) (h' : H t' = some (.tup [plV own, c', st'])) (hc : Sh C H c r) (hc' : Sh C H c' r) (z : Sz 4000 r) (hs : StV H st s) (hs' : StV H st' s) :
    DTupB K (dS4 K C) (.ref t) (.ref t') true H :=
  ⟨t, t', _, _, rfl, rfl, SqT.of h, SqT.of h', .yes (.inl (.inl ⟨rfl, rfl, (eqV_self rfl).symm⟩)) (.yes (.inl (sh_eq hc hc' z)) (.yes (.inr (st_eq hs hs')) .nil)), fun _ => rfl⟩
theorem same_self (P : PrS) : SameP P P := ⟨rfl, rfl, rfl, fun _ h => h⟩
end Ps

/-! k45: what is looked at behind the asks. -/
namespace Ps
open PySem PySem.Spec PyProof.Rows PySem.W L2 LamX

/-- a value that is told once, behind a name that was set -/
theorem gName_val {N : L2.St → Hp → Prop} {D : Ends} {te : TE} {g : TG} {u : TS} {i : Nat} {v : V} {σ : L2.St} {H : Hp} (hN : N = tSeq (tAsg te g) u D) (R : V → Hp → Prop) (h : ∀ Q : VK, (∀ x H', R x H' → Q x H') → te (σ.set i (some v)) H Q) (k : ∀ x H', R x H' → g x (σ.set i (some v)) H' (u D)) : gName i v σ H N := by
  show N _ _
  rw [hN]
  exact h _ fun x H' r => k x H' r
theorem iteFb {b : Bool} {A B : Prop} (h : b = false) (k : B) : if b = true then A else B := by
  rw [h]
  exact k
theorem plV_gen (own : Bool) : decide (plV own = V.str "general") = !own := by cases own <;> rfl
theorem plV_own (own : Bool) : decide (plV own = V.str "own") = own := by cases own <;> rfl
theorem gMin_self (r : Int × Int) : gMin r r = 0 := by unfold gMin; omega
theorem low6_z {n : Int} (h0 : 0 ≤ n) (h1 : n ≤ 1000) : Sz 4000 (low n 6) := Sz.of_low (by decide) (lt_up (m := 10) (by omega) (by decide)) (lt_up (m := 3) (by decide) (by decide))
section
variable {Z : Cz} {f C CB CP CY : Addr} {fd : FuncData} {T0 : List (Addr × Str)}
/-- a turn: what was asked, in what state -/
def MkV (C : Addr) (pl : Plan) (P : PrD) (H : Hp) (y : V) (x : Str × BSt) : Prop := ∃ t c, y = .ref t ∧ H t = some (.tup [.str x.1, plV ((bkOfPl pl).isOwn x.2), c, .bl x.2.kept, .str x.2.mode]) ∧ Sh C H c (low (lpay pl P x.2 x.1) 6)
def spMkR (C : Addr) : Sp := fun vs H Q _ => ∃ v P l ys pl xs, vs = [v, .ref l] ∧ PrAt H v P ∧ PrG P ∧ H l = some (.lst ys) ∧ Al (fun y x => MkV C pl P H y x) ys xs ∧ (∀ x ∈ xs, x.1 ∈ P.ks.map (·.1)) ∧ ∀ H', Same H H' → Q (.bl true) H'
/-- behind a doubt -/
def DbV (H : Hp) (pl : Plan) (P : PrD) (y : V) (x : Str × BSt) : Prop := ∃ t c, y = .ref t ∧ H t = some (.tup [.str x.1, plV ((bkOfPl pl).isOwn x.2), c, .str x.2.mode, .str ((bkOfPl pl).next (prOf P) x.2 x.1).mode])
def spDbR : Sp := fun vs H Q _ => ∃ a pl vf va v P l ys xs q, vs = [.ref a, v, .ref l] ∧ PlAt H a pl vf va ∧ PlOk pl ∧ pl.after = .doubt q ∧ PrAt H v P ∧ PrG P ∧ H l = some (.lst ys) ∧ Al (fun y x => DbV H pl P y x) ys xs ∧ (∀ x ∈ xs, x.1 ∈ P.ks.map (·.1) ∧ (bkOfPl pl).wf (prOf P) x.2) ∧ ∀ H', Same H H' → Q (.bl true) H'
section
variable {G : Hp → Hp → Prop} {ok : Addr → Prop} {J : It} {n : Nat} {Gd : Hp → Prop} {Y : Nat → Hp → V → Hp → Prop} {Pz : Nat → V → Prop} {tt : TT} {te : TE} {i : Nat} {σ : L2.St} {H1 : Hp} {D : Addr} {Qd : Hp → Prop}
/-- a test that lets nothing through -/
theorem lcN (hG : HR G ok) (w : Walk J n Gd Y) (hy : ∀ i H x H', Y i H x H' → H' = H ∧ Pz i x) (hD : H1 D = none) (hok : ok D) (hGd : ∀ H2, G H1 H2 → Gd H2)
    (step : ∀ j x H2 (Qb : Bool → Hp → Prop), Pz j x → G H1 H2 → (∀ H3, G H2 H3 → Qb false H3) → tt ((wipe σ [i]).set i (some x)) H2 Qb) (fin : ∀ H2, G H1 H2 → H2 D = some (.lst []) → Qd H2) :
    ∃ W : Nat → Nat → Hp → Prop, (∃ m, W 0 m (upd H1 D (.lst []))) ∧ ∀ k m H, W k m H →
      (J.stop k H ∧ Qd H) ∨ (J.go k H ∧ ∃ Nx : Hp → Prop, (∀ H', Nx H' → ∃ m', m' < m ∧ W (k + 1) m' H') ∧ ∀ x H', J.yld k H x H' → gName i x (wipe σ [i]) H' fun σ2 H2 => wipe σ2 [i] = wipe σ [i] ∧ tt σ2 H2 fun b H3 =>
        if b = true then te σ2 H3 fun y H4 => ∃ acc, H4 D = some (.lst acc) ∧ acc.length < sizeLine ∧ Nx (upd H4 D (.lst (acc ++ [y]))) else Nx H3) := by
  refine lc_it w (fun j H' => G H1 H' ∧ H' D = some (.lst [])) ⟨hG.new hD, upd_same⟩ (fun j H' _ h => hGd _ h.1) ?_ (fun H' h => fin H' h.1 h.2)
  rintro j x H2 H' hj ⟨g, hl⟩ y
  obtain ⟨rfl, px⟩ := hy j H2 x H' y
  refine ⟨wipe_one σ i x, step j x _ _ px g fun H3 g3 => ?_⟩
  exact ⟨hG.trans g g3, hG.lst g3 hok hl⟩
end
/-- behind a look -/
def CtV (H : Hp) (pl : Plan) (y : V) : Prop := ∃ t n kp, y = .ref t ∧ H t = some (.tup [.int n, plV ((bkOfPl pl).isOwn (.gen kp (some n)))])
def spLkR : Sp := fun vs H Q _ => ∃ a pl vf va l ys i, vs = [.ref a, .ref l] ∧ PlAt H a pl vf va ∧ pl.after = .look i ∧ H l = some (.lst ys) ∧ (∀ y ∈ ys, CtV H pl y) ∧ ∀ H', Same H H' → Q (.bl true) H'
end
end Ps

/-! What stays while a pool, a player and lists change. -/
namespace Ps
open PySem PySem.Spec PyProof.Rows PySem.W L2 LamX

/-- tuples, dicts, and instances that are no players -/
def Stb : HO → Prop
  | .tup _ => True
  | .dK _ => True
  | .ins _ _ fs => ∃ p r, fs = p :: r ∧ p.1 ≠ ("own_book" : Str)
  | _ => False
def Ks (H H' : Hp) : Prop := ∀ b o, Stb o → H b = some o → H' b = some o
section
variable {T : List (Addr × Str)} {H H1 H' : Hp} {p q y : Addr} {ms : List Int} {C CB CP CY : Addr} {v : V}
theorem Ks.refl (H : Hp) : Ks H H := fun _ _ _ h => h
theorem Ks.trans (a : Ks H H1) (b : Ks H1 H') : Ks H H' := fun c o n h => b c o n (a c o n h)
theorem Ks.same (e : Same H H') : Ks H H' := fun b o _ h => e b o h
theorem Stb.tbl {o : HO} (h : Stb o) : ∀ ps, o ≠ .tbl ps := fun ps z => by rw [z] at h; exact h
theorem Ks.gp (g : Gp T p q ms H H') (hP : Pl H p q ms) : Ks H H' := fun b o n h => g.at h (fun z => by
  rw [z, hP.at_] at h
  cases h
  exact n) n.tbl
theorem Ks.grS {dx : Addr} {fs : List (Str × V)} (g : Gr T (some y) H H') (hy : H y = some (.ins CY dx fs)) (hf : YF fs) : Ks H H' := fun b o n h => g.at h (fun z => by
  cases z
  rw [hy] at h
  cases h
  obtain ⟨p, r, e, ne⟩ := n
  exact ne (hf p r e)) n.tbl
theorem Ks.put {l : Addr} {xs : List V} {o : HO} (hl : H l = some (.lst xs)) : Ks H (upd H l o) := fun b u n h => by
  rw [upd_ne (fun z => by
    rw [z, hl] at h
    cases h
    exact n)]
  exact h
theorem Ks.tp (k : Ks H H') : Tp H H' := fun a xs h => k a _ (show Stb (.tup xs) from True.intro) h
theorem Ks.tup (k : Ks H H') {a : Addr} {xs : List V} (h : H a = some (.tup xs)) : H' a = some (.tup xs) := k.tp a xs h
theorem Ks.dk (k : Ks H H') {a : Addr} {xs : List (Key × V)} (h : H a = some (.dK xs)) : H' a = some (.dK xs) := k a _ (show Stb (.dK xs) from True.intro) h
theorem Sh.ks {r : Int × Int} (k : Ks H H') (h : Sh C H v r) : Sh C H' v r := let ⟨a, d, h1, h2⟩ := h; ⟨a, d, h1, k a _ ⟨_, _, rfl, by show ("own_top" : Str) ≠ "own_book"; decide +kernel⟩ h2⟩
theorem StV.ks {s : BSt} (k : Ks H H') (h : StV H v s) : StV H' v s := let ⟨t, m, h1, h2, h3⟩ := h; ⟨t, m, h1, k.tup h2, k.tup h3⟩
theorem PlAt.ks {a : Addr} {pl : Plan} {vf va : V} (k : Ks H H') (h : PlAt H a pl vf va) : PlAt H' a pl vf va := ⟨k.dk h.d, h.f.mono k.tp, h.a.mono k.tp⟩
theorem PrAt.ks {P : PrD} (k : Ks H H') (h : PrAt H v P) : PrAt H' v P := by
  obtain ⟨d, kd, kvs, e, h1, h2, h3⟩ := h
  exact ⟨d, kd, kvs, e, k.dk h1, k.dk h2, h3.1, fun i kv x e1 e2 => let ⟨z1, t, z2, z3⟩ := h3.2 i kv x e1 e2; ⟨z1, t, z2, k.tup z3⟩⟩
theorem BkAt.ks {b : Bk} (k : Ks H H') (h : BkAt C CB H v b) : BkAt C CB H' v b := by
  obtain ⟨a, dx, d, rfl, ha, ⟨vo, vf, va, hd, h1, h2, h3⟩, ho⟩ := h
  refine ⟨a, dx, d, rfl, k a _ ⟨_, _, rfl, by show ("settings" : Str) ≠ "own_book"; decide +kernel⟩ ha, ⟨vo, vf, va, k.dk hd, h1.ks k, h2.ks k, ?_⟩, ho⟩
  cases hb : b.after with
  | ever => rw [hb] at h3; exact h3
  | doubt q => rw [hb] at h3; obtain ⟨a, w, e1, e2, e3⟩ := h3; exact ⟨a, w, e1, k.tup e2, e3.ks k⟩
  | look i => rw [hb] at h3; obtain ⟨a, e1, e2⟩ := h3; exact ⟨a, e1, k.tup e2⟩
theorem PrAtS.ks {P : PrS} (k : Ks H H') (h : PrAtS C CP H v P) : PrAtS C CP H' v P := by
  obtain ⟨x, dx, a, b, d, kvs, rfl, hx, ha, hb, hd, hk⟩ := h
  refine ⟨x, dx, a, b, d, kvs, rfl, k x _ ⟨_, _, rfl, by show ("own_make" : Str) ≠ "own_book"; decide +kernel⟩ hx, ha.ks k, hb.ks k, k.dk hd, hk.1, fun i kv u e1 e2 => ?_⟩
  obtain ⟨q1, t, u, w, q2, q3, q4, q5⟩ := hk.2 i kv u e1 e2
  exact ⟨q1, t, u, w, q2, k.tup q3, q4.ks k, q5.ks k⟩
theorem PyAt.ks {Y : Py} (k : Ks H H') (e : H' y = H y) (h : PyAt C CB CP CY H y Y) : PyAt C CB CP CY H' y Y := by
  obtain ⟨dx, vb, vp, st, pd, h1, h2, h3, h4, h5⟩ := h
  exact ⟨dx, vb, vp, st, pd, e.trans h1, h2.ks k, h3.ks k, h4.ks k, h5.ks k⟩
theorem MkV.ks {pl : Plan} {P : PrD} {x : Str × BSt} (k : Ks H H') (h : MkV C pl P H v x) : MkV C pl P H' v x := let ⟨t, c, h1, h2, h3⟩ := h; ⟨t, c, h1, k.tup h2, h3.ks k⟩
theorem DbV.ks {pl : Plan} {P : PrD} {x : Str × BSt} (k : Ks H H') (h : DbV H pl P v x) : DbV H' pl P v x := let ⟨t, c, h1, h2⟩ := h; ⟨t, c, h1, k.tup h2⟩
theorem CtV.ks {pl : Plan} (k : Ks H H') (h : CtV H pl v) : CtV H' pl v := let ⟨t, n, kp, h1, h2⟩ := h; ⟨t, n, kp, h1, k.tup h2⟩
/-- what came since may change -/
theorem Gr.gp0 (g : Gr T none H H1) (n : H p = none) (g1 : Gp T p q ms H1 H') : Gr T none H H' := ⟨fun b o _ h nt => g1.at (g.x b o (by simp) h nt) (ne_of_none h n) nt, fun h => g1.g.t (g.t h), fun b h => g.f b (g1.g.f b h)⟩
theorem Gr.gs0 (g : Gr T none H H1) (n : H y = none) (g1 : Gr T (some y) H1 H') : Gr T none H H' := ⟨fun b o _ h nt => g1.at (g.x b o (by simp) h nt) (fun z => ne_of_none h n (Option.some.inj z)) nt, fun h => g1.t (g.t h), fun b h => g.f b (g1.f b h)⟩
/-- Player(..): what its reading asks -/
theorem mk_playerF {b : Bk} {P : PrS} {vb vp : V} {Q2 : VK} {E : XK} {x dx : Addr} (hT : Tabs T H) (hb : BkAt C CB H vb b) (hP : PrAtS C CP H vp P) (g : PrG' P) (hx : H x = none) (hdx : H dx = none) (hne : dx ≠ x)
    (k : ∀ H', Gr T none H H' → PyAt C CB CP CY H' x ⟨b, srtP P, b.begun false, (0, 1), 0⟩ → PyFr CY H H' x → Q2 .non H') : spPlayer T C CB CP CY [.ref x, vb, vp] (upd (upd H dx (.own x)) x (.ins CY dx [])) Q2 E := by
  have n : (upd H dx (.own x)) x = none := by rw [upd_ne hne.symm]; exact hx
  have s : Same H (upd (upd H dx (.own x)) x (.ins CY dx [])) := (Same.upd hdx).trans (Same.upd n)
  exact ⟨x, dx, vb, vp, b, P, H, rfl, upd_same, s, hx, hT, hb, hP, g, k⟩
theorem mk_player {b : Bk} {P : PrS} {vb vp : V} {Q2 : VK} {E : XK} {x dx : Addr} (hT : Tabs T H) (hb : BkAt C CB H vb b) (hP : PrAtS C CP H vp P) (g : PrG' P) (hx : H x = none) (hdx : H dx = none) (hne : dx ≠ x)
    (k : ∀ H', Gr T none H H' → PyAt C CB CP CY H' x ⟨b, srtP P, b.begun false, (0, 1), 0⟩ → Q2 .non H') : spPlayer T C CB CP CY [.ref x, vb, vp] (upd (upd H dx (.own x)) x (.ins CY dx [])) Q2 E := mk_playerF hT hb hP g hx hdx hne fun H' g hy _ => k H' g hy
end
theorem srtK_idem (ks : List (Str × Q2)) : srtK (srtK ks) = srtK ks := List.mergeSort_of_pairwise (List.pairwise_mergeSort (fun a b c => leW_trans a.1 b.1 c.1) (fun a b => leW_total a.1 b.1) ks)
theorem srtP_of (P : PrD) : srtP (prOf P) = prOf P := by
  unfold srtP prOf
  rw [srtK_idem]
end Ps

/-! Rows of asks: is_row, check_row. -/
namespace Ps
open PySem PySem.Spec PyProof.Rows PySem.W L2 LamX

/-- a value that is a row, or none -/
inductive RwV (K : Frag) (H : Hp) (P : PrS) (v : V) : Bool → Prop
  | odd {t : Value} : TyX K H v t → kitOne K t (.type "list") = some false → RwV K H P v false
  | lst {l : Addr} {xs : List V} {bs : List Bool} : v = .ref l → H l = some (.lst xs) → xs.length ≤ 10000 → Al (fun x (b : Bool) => if b = true then ∃ z, x = .str z ∧ z ∈ P.ks.map (·.1) else NoKd K H P x) xs bs → RwV K H P v (bs.all id)
def spIsRow (K : Frag) (C CP : Addr) : Sp := fun vs H Q _ => ∃ pz v P b, vs = [pz, v] ∧ PrAtS C CP H pz P ∧ KnG P.ks ∧ RwV K H P v b ∧ ∀ H', Same H H' → Q (.bl b) H'
def spChkRow (K : Frag) (C CP CR : Addr) : Sp := fun vs H Q E => ∃ pz v P b, vs = [pz, v] ∧ PrAtS C CP H pz P ∧ KnG P.ks ∧ RwV K H P v b ∧ ((b = true ∧ ∀ H', Same H H' → Q .non H') ∨ (b = false ∧ Rz CR "value" v H E))
section
variable {Z : Cz} {f C CB CP CY CR PR fR : Addr} {fd : FuncData} {T0 : List (Addr × Str)}
theorem ok_isRow (F : Fun Z.K "is_row" "is_row" s_is_row f fd) (B : PrB Z) (ch : CalS Z CX0 2 CP "__contains__" ["self", "word"] (spPrHas Z.K C CP)) : Z.ok CX0 3 f fd ["prices", "value"] (spIsRow Z.K C CP) := by
  refine F.ok sc_is_row (fun vs H Q E h => ?_) (fun cdv A outer s H vs Q E hr h => ?_)
  · obtain ⟨pz, v, P, b, rfl, _⟩ := h
    rfl
  · obtain ⟨pz, v, P, b, rfl, hP, g, hv, k⟩ := h
    refine ⟨_, (pss_one (ps_ret (pe_and (pe_callB call_isi (by rfl) B.isi (by decide +kernel) (pa_cons (pv 1) (pa_cons (pe_ty "list" (by rfl) B.list (by decide +kernel)) pa_nil))) (pe_one (pe_callB (cr_all rfl) (by rfl) B.all (by decide +kernel) (pa_cons (pe_lc (own := [("word", 2)]) (g := gName 2) (tt := tYes) (by rfl) sc_is_row.nd (pi_list (pv 1)) (blkOk_by (own := [("word", 2)]) (N := ["prices", "value", "word"]) (sc := defScope s_is_row) (by decide +kernel)) (fun _ _ _ _ _ => (pg_name (i := 2) sc_is_row.nd rfl (Or.inl rfl))) (fun _ _ _ _ _ => pts_nil) (fun _ _ _ _ _ => (pe_cmpR (op_inO ch (hr.mono (by decide))) (pv 2) (pv 0) (by rfl)))) pa_nil)))))), ?_⟩
    cases hv with
    | odd ty k1 =>
      refine ⟨_, rfl, _, _, _, _, false, rfl, .ty "list", ty, k1, _, rfl, iteF (k H (.refl _))⟩
    | @lst l xs bs e hl hz al =>
      subst e
      refine ⟨_, rfl, _, _, _, _, true, rfl, .ty "list", .base (.lst hl), kit_ty (by decide +kernel), _, rfl, iteT ?_⟩
      refine ⟨_, rfl, l, rfl, ⟨_, SqL.of hl⟩, fun D hD => ?_⟩
      refine lcF hr_same (walk_list (K := Z.K) (a := l) (xs := xs)) yat (ys := bs.map V.bl) (by rw [List.length_map]; exact al.1.symm) (by omega) hD trivial (fun H2 e2 => SqL.of (e2 _ _ hl)) ?_ (fun H2 e2 hD2 => ⟨D, bs, rfl, SqL.of hD2, k H2 e2⟩)
      rintro j x y H2 Qe hx hy e2 kk
      obtain ⟨b, hb, hR⟩ := al.get hx
      rw [List.getElem?_map, hb] at hy
      cases hy
      refine ⟨_, rfl, _, rfl, pr_ins (hP.mono e2), _, _, P, rfl, hP.mono e2, g, ?_⟩
      cases b with
      | true =>
        rw [if_pos rfl] at hR
        obtain ⟨z, rfl, hz⟩ := hR
        exact .inl ⟨z, lkP P z, rfl, kind_in g hz, fun H3 e3 => ⟨true, rfl, kk H3 e3⟩⟩
      | false =>
        rw [if_neg (by decide)] at hR
        exact .inr ⟨hR.mono e2, fun H3 e3 => ⟨false, rfl, kk H3 e3⟩⟩
theorem ok_chkRow (F : Fun Z.K "check_row" "check_row" s_check_row f fd) (TR : ExT Z.K Z.mg "BadRow" "value" "BadRow.__init__" CR PR fR) (c_is_row : Cal Z CX0 3 "is_row" ["prices", "value"] [] (spIsRow Z.K C CP)) : Z.ok (CXN Z) 4 f fd ["prices", "row"] (spChkRow Z.K C CP CR) := by
  refine Fun.okN F sc_check_row (fun vs H Q E h => ?_) (fun cdv A outer s H vs Q E hr h => ?_)
  · obtain ⟨pz, v, P, b, rfl, _⟩ := h
    rfl
  · obtain ⟨pz, v, P, b, rfl, hP, g, hv, h⟩ := h
    refine ⟨_, (pss_one (ps_if (pt_not (pt_val (pe_cal c_is_row (hr.mono (by decide)) (by rfl) pass0 (pa_cons (pv 0) (pa_cons (pv 1) pa_nil)))))
      (pss_one (ps_raiseX TR fl_value hr (L2N.takes_of rfl rfl rfl rfl) (pa_cons (pv 1) pa_nil) rfl))
      pss_nil)), ?_⟩
    refine ⟨_, rfl, _, rfl, pz, v, P, b, rfl, hP, g, hv, fun H1 e1 => ⟨_, rfl, ?_⟩⟩
    rcases h with ⟨rfl, k⟩ | ⟨rfl, k⟩
    · exact iteF (k H1 e1)
    · exact iteT ⟨_, rfl, _, rfl, (k.later e1).now⟩
/-! player += row -/
def Py.steps (Y : Py) (ws : List Str) : Py := ws.foldl Py.step Y
theorem Py.steps_snoc (Y : Py) (ws : List Str) (w : Str) : Y.steps (ws ++ [w]) = (Y.steps ws).step w := by
  unfold Py.steps
  rw [List.foldl_append]
  rfl
theorem steps_b (Y : Py) : ∀ ws : List Str, (Y.steps ws).b = Y.b ∧ (Y.steps ws).P = Y.P := fun ws => by
  induction ws generalizing Y with
  | nil => exact ⟨rfl, rfl⟩
  | cons w r ih => exact ih (Y.step w)
/-- a row that may be asked -/
def RowOk (Y : Py) (ws : List Str) : Prop := ∀ (n : Nat) (w : Str), ws[n]? = some w → Y.b.wf Y.P (Y.steps (ws.take n)).s ∧ w ∈ Y.P.ks.map (·.1) ∧ Sz 2000 (Y.steps (ws.take n)).paid ∧ Sz 2000 (Y.b.cost Y.P (Y.steps (ws.take n)).s w)
def spPyRow (K : Frag) (T : List (Addr × Str)) (C CB CP CY CR : Addr) : Sp := fun vs H Q E => ∃ y v Y, vs = [.ref y, v] ∧ PyAt C CB CP CY H y Y ∧ PrG' Y.P ∧ Tabs T H ∧
  ((∃ l ws, v = .ref l ∧ H l = some (.lst (ws.map V.str)) ∧ ws.length ≤ 1000 ∧ RowOk Y ws ∧ ∀ H', Gr T (some y) H H' → PyAt C CB CP CY H' y (Y.steps ws) → Q (.ref y) H') ∨ (RwV K H Y.P v false ∧ Rz CR "value" v H E))
theorem rwv_good {K : Frag} {H : Hp} {P : PrS} {l : Addr} {ws : List Str} (hl : H l = some (.lst (ws.map V.str))) (hz : ws.length ≤ 1000) (hw : ∀ w ∈ ws, w ∈ P.ks.map (·.1)) : RwV K H P (.ref l) true := by
  have h := RwV.lst (K := K) (P := P) (v := .ref l) (bs := ws.map fun _ => true) rfl hl (by rw [List.length_map]; omega) ⟨by rw [List.length_map, List.length_map], fun i a b ha hb => by
    rw [List.getElem?_map] at ha hb
    cases hi : ws[i]? with
    | none => rw [hi] at ha; cases ha
    | some w =>
      rw [hi] at ha hb
      cases ha
      cases hb
      rw [if_pos rfl]
      exact ⟨w, rfl, hw w (List.mem_of_getElem? hi)⟩⟩
  have e : (ws.map fun _ => true).all id = true := by simp
  rw [e] at h
  exact h
theorem ok_PyIadd (F : Fun Z.K "__iadd__" "Player.__iadd__" s_Player_dd_iadd f fd) (B : PrB Z) (Yc : PyC Z CY) (c_check_row : Cal Z (CXN Z) 4 "check_row" ["prices", "row"] [] (spChkRow Z.K C CP CR)) (c_ask : CalO Z CX0 10 CY ["self", "kind"] (spPyCall T0 C CB CP CY)) :
    Z.ok (CXN Z) 11 f fd ["self", "kinds"] (spPyRow Z.K T0 C CB CP CY CR) := by
  refine Fun.okN F sc_Player_dd_iadd (fun vs H Q E h => ?_) (fun cdv A outer s H vs Q E hr h => ?_)
  · obtain ⟨y, v, Y, rfl, _⟩ := h
    rfl
  · obtain ⟨y, v, Y, rfl, hy, g, hT, h⟩ := h
    refine ⟨_, (pss_cons (ps_expr (pe_cal c_check_row (hr.mono (by decide)) (by rfl) (passN (L2N.takes_of rfl rfl rfl rfl)) (pa_cons (pe_fld (pv 0) rfl) (pa_cons (pv 1) pa_nil))))
      (pss_cons (ps_for (passes_of rfl) rfl (pi_list (pe_callTy call_list_of (by rfl) B.list (by decide +kernel) (pa_cons (pv 1) pa_nil))) (pg_name (i := 2) sc_Player_dd_iadd.nd rfl (Or.inl rfl))
      (pss_one (ps_expr (pe_callO (i := 0) c_ask (hr.mono (by decide)) rfl (by first | exact Or.inl rfl | exact Or.inr (Or.inl rfl) | exact Or.inr (Or.inr rfl)) pass0 (pa_cons (pv 2) pa_nil)))))
      (pss_one (ps_ret (pv 0))))), ?_⟩
    have hy' := hy
    obtain ⟨dx, vb, vp, st, pd, hyI, hb, hP, hs, hd⟩ := hy'
    rcases h with ⟨l, ws, rfl, hl, hz, hok, k⟩ | ⟨hv, k⟩
    · have hw : ∀ w ∈ ws, w ∈ Y.P.ks.map (·.1) := fun w hw => by
        obtain ⟨n, hn⟩ := List.getElem?_of_mem hw
        exact (hok n w hn).2.1
      refine ⟨_, rfl, y, CY, dx, _, _, rfl, hyI, Yc.cl, Yc.nP, rfl, _, rfl, vp, .ref l, Y.P, true, rfl, hP, g.ks, rwv_good hl hz hw, .inl ⟨rfl, fun H1 e1 => ?_⟩⟩
      refine ⟨_, rfl, l, _, rfl, .inl (SqL.of (e1 _ _ hl)), fun D hD => ⟨D, rfl, ⟨_, SqL.of upd_same⟩, ?_⟩⟩
      have e2 := Same.upd (o := .lst (ws.map V.str)) hD
      have e12 := e1.trans e2
      have nyD : D ≠ y := (ne_of_none (e1 _ _ hyI) hD).symm
      refine for_list (K := Z.K) (a := D) (xs := ws.map V.str) (fun j σ H' => Gr T0 (some y) H H' ∧ PyAt C CB CP CY H' y (Y.steps (ws.take j)) ∧ H' D = some (.lst (ws.map V.str)) ∧ ∃ o : Option V, σ = [some (.ref y), some (.ref l), o])
        ⟨.of e12, hy.mono e12, upd_same, _, rfl⟩ (fun j σ H' _ ⟨_, _, h, _⟩ => SqL.of h) ?_ ?_
      · rintro j x σ H3 hx ⟨g3, hy3, hD3, o, rfl⟩
        rw [List.getElem?_map] at hx
        cases hj : ws[j]? with
        | none => rw [hj] at hx; cases hx
        | some w =>
          rw [hj] at hx
          cases hx
          obtain ⟨w1, w2, z1, z2⟩ := hok j w hj
          obtain ⟨eb, eP⟩ := steps_b Y (ws.take j)
          have hy3' := hy3
          obtain ⟨dx3, vb3, vp3, st3, pd3, hy3I, _⟩ := hy3'
          refine ⟨y, dx3, _, rfl, hy3I, _, rfl, ⟨y, dx3, _, rfl, hy3I⟩, y, w, _, rfl, hy3, by rw [eP]; exact g, by rw [eb, eP]; exact w1, by rw [eP]; exact w2, z1, by rw [eb, eP]; exact z2, g3.t hT, fun t c H4 g4 hy4 ht hc => ?_⟩
          refine ⟨g3.trans g4, ?_, g4.at hD3 (fun z => nyD (Option.some.inj z)), _, rfl⟩
          rw [List.take_succ, hj, show (some w).toList = [w] from rfl, Py.steps_snoc]
          exact hy4
      · rintro σ H3 ⟨g3, hy3, hD3, o, rfl⟩
        rw [List.length_map, List.take_length] at hy3
        exact ⟨_, rfl, k H3 g3 hy3⟩
    · refine ⟨_, rfl, y, CY, dx, _, _, rfl, hyI, Yc.cl, Yc.nP, rfl, _, rfl, vp, v, Y.P, false, rfl, hP, g.ks, hv, .inr ⟨rfl, k⟩⟩
/-! copies -/
def spPyCopy (T : List (Addr × Str)) (C CB CP CY : Addr) : Sp := fun vs H Q _ => ∃ y Y, vs = [.ref y] ∧ PyAt C CB CP CY H y Y ∧ PrG' Y.P ∧ srtP Y.P = Y.P ∧ Tabs T H ∧ ∀ z H', Gr T none H H' → H z = none → PyAt C CB CP CY H' z Y → Q (.ref z) H'
theorem ok_PyCopy (F : Fun Z.K "copied" "Player.copied" s_Player_copied f fd) (Yc : PyC Z CY) (c_Player : CalC Z CX0 12 CY "Player" ["self", "book", "prices"] [] (spPlayer T0 C CB CP CY)) : Z.ok CX0 14 f fd ["self"] (spPyCopy T0 C CB CP CY) := by
  refine F.ok sc_Player_copied (fun vs H Q E h => ?_) (fun cdv A outer s H vs Q E hr h => ?_)
  · obtain ⟨y, Y, rfl, _⟩ := h
    rfl
  · obtain ⟨y, Y, rfl, hy, g, hs, hT, k⟩ := h
    refine ⟨_, (pss_cons (ps_set (i := 1) sc_Player_copied.nd rfl (Or.inl rfl) (pe_calC c_Player hr (by rfl) pass0 (pa_cons (pe_fld (pv 0) rfl) (pa_cons (pe_fld (pv 0) rfl) pa_nil))))
      (pss_cons (ps_fld (pv 1) (pe_fld (pv 0) rfl) rfl)
      (pss_cons (ps_fld (pv 1) (pe_fld (pv 0) rfl) rfl)
      (pss_cons (ps_fld (pv 1) (pe_fld (pv 0) rfl) rfl)
      (pss_one (ps_ret (pv 1))))))), ?_⟩
    have hy' := hy
    obtain ⟨dx, vb, vp, st, pd, hyI, hb, hP, hsv, hd⟩ := hy'
    refine ⟨_, rfl, y, CY, dx, _, _, rfl, hyI, Yc.cl, Yc.nB, rfl, _, rfl, y, CY, dx, _, _, rfl, hyI, Yc.cl, Yc.nP, rfl, fun x dz hx0 hdz hne => ?_⟩
    refine mk_player hT hb hP g hx0 hdz hne fun H1 g1 hx => ⟨rfl, ?_⟩
    obtain ⟨dx1, vb1, vp1, st1, pd1, hxI, hb1, hP1, hs1, hd1⟩ := hx
    have hP1 : PrAtS C CP H1 vp1 (srtP Y.P) := hP1
    rw [hs] at hP1
    have nxy : x ≠ y := (ne_of_none hyI hx0).symm
    have hy1 := g1.at hyI
    -- the state
    refine ⟨_, rfl, y, CY, dx, _, _, rfl, hy1, Yc.cl, Yc.nS, rfl, _, rfl, x, CY, dx1, _, rfl, hxI, Yc.cl, Yc.nS, (by show 5 < 1000; decide), ?_⟩
    have k2 : Kp x H1 (upd H1 x (.ins CY dx1 (putF "own_state" st (pyF vb1 vp1 st1 pd1 0)))) := .upd hxI YF.cons
    have g2 : Gr T0 none H (upd H1 x (.ins CY dx1 (putF "own_state" st (pyF vb1 vp1 st1 pd1 0)))) := g1.putI hx0 hxI
    have hx2 : (upd H1 x (.ins CY dx1 (putF "own_state" st (pyF vb1 vp1 st1 pd1 0)))) x = some (.ins CY dx1 (pyF vb1 vp1 st pd1 0)) := upd_same
    have hy2 := g2.at hyI
    have hb2 := hb1.kp k2
    have hP2 := hP1.kp k2
    generalize (upd H1 x (.ins CY dx1 (putF "own_state" st (pyF vb1 vp1 st1 pd1 0)))) = H2 at k2 g2 hx2 hy2 hb2 hP2 ⊢
    -- paid
    refine ⟨_, rfl, y, CY, dx, _, _, rfl, hy2, Yc.cl, Yc.nD, rfl, _, rfl, x, CY, dx1, _, rfl, hx2, Yc.cl, Yc.nD, (by show 5 < 1000; decide), ?_⟩
    have k3 : Kp x H2 (upd H2 x (.ins CY dx1 (putF "own_paid" pd (pyF vb1 vp1 st pd1 0)))) := .upd hx2 YF.cons
    have g3 : Gr T0 none H (upd H2 x (.ins CY dx1 (putF "own_paid" pd (pyF vb1 vp1 st pd1 0)))) := g2.putI hx0 hx2
    have hx3 : (upd H2 x (.ins CY dx1 (putF "own_paid" pd (pyF vb1 vp1 st pd1 0)))) x = some (.ins CY dx1 (pyF vb1 vp1 st pd 0)) := upd_same
    have hy3 := g3.at hyI
    have hb3 := hb2.kp k3
    have hP3 := hP2.kp k3
    generalize (upd H2 x (.ins CY dx1 (putF "own_paid" pd (pyF vb1 vp1 st pd1 0)))) = H3 at k3 g3 hx3 hy3 hb3 hP3 ⊢
    -- asked
    refine ⟨_, rfl, y, CY, dx, _, _, rfl, hy3, Yc.cl, Yc.nA, rfl, _, rfl, x, CY, dx1, _, rfl, hx3, Yc.cl, Yc.nA, (by show 5 < 1000; decide), ?_⟩
    have k4 : Kp x H3 (upd H3 x (.ins CY dx1 (putF "own_asked" (.int Y.n) (pyF vb1 vp1 st pd 0)))) := .upd hx3 YF.cons
    have g4 : Gr T0 none H (upd H3 x (.ins CY dx1 (putF "own_asked" (.int Y.n) (pyF vb1 vp1 st pd 0)))) := g3.putI hx0 hx3
    refine ⟨_, rfl, k x _ g4 hx0 ⟨dx1, vb1, vp1, st, pd, upd_same, hb3.kp k4, hP3.kp k4, hsv.gr g4, hd.gr g4⟩⟩
end
end Ps

set_option pp.maxSteps 600
/-! Rows told by parts. -/
namespace Ps
open PySem PySem.Spec PyProof.Rows PySem.W L2 LamX

/-- no integer -/
def NtI (K : Frag) (H : Hp) (v : V) : Prop := ∃ t, TyX K H v t ∧ (t = .type "bool" ∨ kitOne K t (.type "int") = some false)
theorem ntI3 {K : Frag} {t : Value} {A B : Prop} (h : t = .type "bool" ∨ kitOne K t (.type "int") = some false) (k : B) : (t = .type "int" ∧ A) ∨ (t = .type "bool" ∧ B) ∨ (kitOne K t (.type "int") = some false ∧ B) := by
  rcases h with h | h
  · exact .inr (.inl ⟨h, k⟩)
  · exact .inr (.inr ⟨h, k⟩)
/-- a value that is a part, or none -/
inductive PartV (K : Frag) (H : Hp) (P : PrS) : V → Bool → Prop
  | odd {v : V} {t : Value} (ty : TyX K H v t) (k : kitOne K t (.type "tuple") = some false) : PartV K H P v false
  | len {a : Addr} {xs : List V} (h : H a = some (.tup xs)) (hl : xs.length ≠ 2) : PartV K H P (.ref a) false
  | row {a : Addr} {r n : V} (h : H a = some (.tup [r, n])) (hr : RwV K H P r false) : PartV K H P (.ref a) false
  | num {a : Addr} {r n : V} (h : H a = some (.tup [r, n])) (hr : RwV K H P r true) (hn : NtI K H n) : PartV K H P (.ref a) false
  | rng {a : Addr} {r : V} {i : Int} (h : H a = some (.tup [r, .int i])) (hr : RwV K H P r true) : PartV K H P (.ref a) (decide (0 ≤ i) && decide (i ≤ 10 ^ 30))
inductive PtsB (K : Frag) (H : Hp) (P : PrS) : V → Bool → Prop
  | odd {v : V} {t : Value} (ty : TyX K H v t) (k : kitOne K t (.type "list") = some false) : PtsB K H P v false
  | lst {l : Addr} {xs : List V} {bs : List Bool} (h : H l = some (.lst xs)) (hl : xs.length ≤ 1000) (al : Al (PartV K H P) xs bs) : PtsB K H P (.ref l) (bs.all id)
section
variable {K : Frag} {H H' : Hp} {P : PrS} {v : V} {b : Bool}
theorem NtI.mono (e : Same H H') (h : NtI K H v) : NtI K H' v := let ⟨t, ty, k⟩ := h; ⟨t, tyX_same e ty, k⟩
theorem RwV.mono' (e : Same H H') (h : RwV K H P v b) : RwV K H' P v b := by
  cases h with
  | odd ty k => exact .odd (tyX_same e ty) k
  | @lst l xs bs ev hl hz al => exact .lst ev (e _ _ hl) hz (al.imp fun x b r => by
      cases b with
      | true => exact r
      | false =>
        rw [if_neg (by decide)] at r ⊢
        exact r.mono e)
theorem PartV.mono (e : Same H H') (h : PartV K H P v b) : PartV K H' P v b := by
  cases h with
  | odd ty k => exact .odd (tyX_same e ty) k
  | len h hl => exact .len (e _ _ h) hl
  | row h hr => exact .row (e _ _ h) (hr.mono' e)
  | num h hr hn => exact .num (e _ _ h) (hr.mono' e) (hn.mono e)
  | rng h hr => exact .rng (e _ _ h) (hr.mono' e)
theorem PtsB.mono (e : Same H H') (h : PtsB K H P v b) : PtsB K H' P v b := by
  cases h with
  | odd ty k => exact .odd (tyX_same e ty) k
  | lst h hl al => exact .lst (e _ _ h) hl (al.imp fun x b r => r.mono e)
end
def spIsPart (K : Frag) (C CP : Addr) : Sp := fun vs H Q _ => ∃ pz v P b, vs = [pz, v] ∧ PrAtS C CP H pz P ∧ KnG P.ks ∧ PartV K H P v b ∧ ∀ H', Same H H' → Q (.bl b) H'
def spChkPts (K : Frag) (C CP CR : Addr) : Sp := fun vs H Q E => ∃ pz v P b, vs = [pz, v] ∧ PrAtS C CP H pz P ∧ KnG P.ks ∧ PtsB K H P v b ∧ ((b = true ∧ ∀ H', Same H H' → Q .non H') ∨ (b = false ∧ Rz CR "value" v H E))
/-- parts that are right -/
abbrev Pts := List (List Str × Nat)
def PtV (H : Hp) (v : V) (x : List Str × Nat) : Prop := ∃ t r, v = .ref t ∧ H t = some (.tup [.ref r, .int (x.2 : Nat)]) ∧ H r = some (.lst (x.1.map V.str))
structure PtG (P : PrS) (x : List Str × Nat) : Prop where
  w : ∀ w ∈ x.1, w ∈ P.ks.map (·.1)
  l : x.1.length ≤ 1000
  n : x.2 ≤ 10 ^ 30
def PtsV (H : Hp) (v : V) (ps : Pts) : Prop := ∃ l xs, v = .ref l ∧ H l = some (.lst xs) ∧ xs.length ≤ 1000 ∧ Al (PtV H) xs ps
structure PtsG (P : PrS) (ps : Pts) : Prop where
  p : ∀ x ∈ ps, PtG P x
  l : ps.length ≤ 100
theorem PtV.gr {T : List (Addr × Str)} {H H' : Hp} {v : V} {x : List Str × Nat} (g : Gr T none H H') (h : PtV H v x) : PtV H' v x := let ⟨t, r, e, h1, h2⟩ := h; ⟨t, r, e, g.at h1, g.at h2⟩
theorem PtsV.gr {T : List (Addr × Str)} {H H' : Hp} {v : V} {ps : Pts} (g : Gr T none H H') (h : PtsV H v ps) : PtsV H' v ps := let ⟨l, xs, e, h1, h2, h3⟩ := h; ⟨l, xs, e, g.at h1, h2, h3.imp fun v x r => r.gr g⟩
theorem rwv_ok {K : Frag} {H : Hp} {P : PrS} {l : Addr} {ws : List Str} (hl : H l = some (.lst (ws.map V.str))) (hz : ws.length ≤ 1000) (hw : ∀ w ∈ ws, w ∈ P.ks.map (·.1)) : RwV K H P (.ref l) true := rwv_good hl hz hw
theorem PtsV.good {K : Frag} {H : Hp} {P : PrS} {v : V} {ps : Pts} (h : PtsV H v ps) (g : PtsG P ps) : PtsB K H P v true := by
  obtain ⟨l, xs, rfl, h1, h2, h3⟩ := h
  have al : Al (PartV K H P) xs (ps.map fun _ => true) := ⟨by rw [List.length_map]; exact h3.1, fun i a b ha hb => by
    rw [List.getElem?_map] at hb
    cases hi : ps[i]? with
    | none => rw [hi] at hb; cases hb
    | some x =>
      rw [hi] at hb
      cases hb
      obtain ⟨t, r, rfl, e1, e2⟩ := h3.2 i a x ha hi
      have gx := g.p x (List.mem_of_getElem? hi)
      have q : PartV K H P (.ref t) (decide (0 ≤ ((x.2 : Nat) : Int)) && decide (((x.2 : Nat) : Int) ≤ 10 ^ 30)) := .rng e1 (rwv_ok e2 gx.l gx.w)
      have e3 : (decide (0 ≤ ((x.2 : Nat) : Int)) && decide (((x.2 : Nat) : Int) ≤ 10 ^ 30)) = true := by
        have hn : ((x.2 : Nat) : Int) ≤ 10 ^ 30 := by
          have := gx.n
          have e : ((10 ^ 30 : Nat) : Int) = 10 ^ 30 := by decide +kernel
          rw [← e]
          exact Int.ofNat_le.mpr this
        rw [decide_eq_true hn, decide_eq_true (Int.natCast_nonneg _)]
        rfl
      rw [e3] at q
      exact q⟩
  have q := PtsB.lst (K := K) (P := P) h1 h2 al
  have e : (ps.map fun _ => true).all id = true := by simp
  rw [e] at q
  exact q
/-- the state behind parts, and what they are paid -/
def stP (b : Bk) (P : PrS) : BSt → Pts → BSt
  | s, [] => s
  | s, x :: r => stP b P (stN b P s x.1 x.2) r
def cP (b : Bk) (P : PrS) (pay : BSt → Str → Int) : BSt → Pts → Int
  | _, [] => 0
  | s, x :: r => cN b P pay s x.1 x.2 + cP b P pay (stN b P s x.1 x.2) r
theorem stP_snoc {b : Bk} {P : PrS} {x : List Str × Nat} : ∀ {ps : Pts} {s : BSt}, stP b P s (ps ++ [x]) = stN b P (stP b P s ps) x.1 x.2
  | [], _ => rfl
  | _ :: r, _ => stP_snoc (ps := r)
theorem cP_snoc {b : Bk} {P : PrS} {pay : BSt → Str → Int} {x : List Str × Nat} : ∀ {ps : Pts} {s : BSt}, cP b P pay s (ps ++ [x]) = cP b P pay s ps + cN b P pay (stP b P s ps) x.1 x.2
  | [], s => by
    show cN b P pay s x.1 x.2 + 0 = 0 + cN b P pay s x.1 x.2
    omega
  | y :: r, s => by
    show cN b P pay s y.1 y.2 + cP b P pay (stN b P s y.1 y.2) (r ++ [x]) = cN b P pay s y.1 y.2 + cP b P pay (stN b P s y.1 y.2) r + cN b P pay (stP b P (stN b P s y.1 y.2) r) x.1 x.2
    rw [cP_snoc]
    omega
theorem stP_wf {b : Bk} {P : PrS} (hb : BkOk b) : ∀ {ps : Pts} {s : BSt}, (∀ x ∈ ps, PtG P x) → b.wf P s → b.wf P (stP b P s ps)
  | [], _, _, h => h
  | x :: r, s, hp, h => stP_wf hb (ps := r) (fun y hy => hp y (List.mem_cons_of_mem _ hy)) (stN_wf hb h (hp x (List.mem_cons_self ..)).w x.2)
theorem cP_b {b : Bk} {P : PrS} {pay : BSt → Str → Int} (S : Six b P pay) : ∀ {ps : Pts} {s : BSt}, (∀ x ∈ ps, PtG P x) → 0 ≤ cP b P pay s ps ∧ cP b P pay s ps ≤ 1000000 * 10 ^ 30 * (ps.length : Nat)
  | [], _, _ => ⟨Int.le_refl 0, Int.le_refl 0⟩
  | x :: r, s, hp => by
    have gx := hp x (List.mem_cons_self ..)
    have h1 := cN_b S (s := s) gx.w gx.l x.2
    have h2 := cP_b S (ps := r) (s := stN b P s x.1 x.2) fun y hy => hp y (List.mem_cons_of_mem _ hy)
    have h3 : ((x.2 : Nat) : Int) ≤ 10 ^ 30 := by
      have := gx.n
      have e : ((10 ^ 30 : Nat) : Int) = 10 ^ 30 := by decide +kernel
      rw [← e]
      exact Int.ofNat_le.mpr this
    have e : ((x :: r).length : Nat) = r.length + 1 := rfl
    rw [e]
    show 0 ≤ cN b P pay s x.1 x.2 + cP b P pay (stN b P s x.1 x.2) r ∧ cN b P pay s x.1 x.2 + cP b P pay (stN b P s x.1 x.2) r ≤ _
    push_cast
    have h4 : (1000000 : Int) * 10 ^ 30 = 1000000000000000000000000000000000000 := by decide +kernel
    have h5 : (10 : Int) ^ 30 = 1000000000000000000000000000000 := by decide +kernel
    rw [h4] at h2
    rw [h5] at h3
    omega
def spPlayed (K : Frag) (T : List (Addr × Str)) (C CB CP : Addr) (b : Bk) (P : PrS) (pay : BSt → Str → Int) : Sp := fun vs H Q _ => ∃ vb vp v ps, vs = [vb, vp, v] ∧ BkAt C CB H vb b ∧ PrAtS C CP H vp P ∧ PrG' P ∧ PtsV H v ps ∧ PtsG P ps ∧ Tabs T H ∧
  ∀ r c st H', Gr T none H H' → H r = none → H' r = some (.tup [c, st]) → Sh C H' c (low (cP b P pay (b.begun false) ps) 6) → StV H' st (stP b P (b.begun false) ps) → Q (.ref r) H'
section
variable {Z : Cz} {f C CB CP CK CR PR fR : Addr} {fd : FuncData} {T0 : List (Addr × Str)} {b : Bk} {P : PrS} {pay : BSt → Str → Int}
end
end Ps

/-! Parts played; bests of rows. -/
namespace Ps
open PySem PySem.Spec PyProof.Rows PySem.W L2 LamX

theorem ten30 : ((10 ^ 30 : Nat) : Int) = 10 ^ 30 := by decide +kernel
theorem cP_sz {b : Bk} {P : PrS} {pay : BSt → Str → Int} {s : BSt} {ps : Pts} (S : Six b P pay) (g : ∀ x ∈ ps, PtG P x) (hl : ps.length ≤ 1000) : Sz 4000 (low (cP b P pay s ps) 6) := by
  have h := cP_b S (s := s) g
  refine Sz.of_low (by decide) (lt_up (m := 150) ?_ (by decide)) (lt_up (m := 3) (by decide) (by decide))
  have h2 : cP b P pay s ps ≤ 1000000 * 10 ^ 30 * 1000 := Int.le_trans h.2 (Int.mul_le_mul_of_nonneg_left (Int.ofNat_le.mpr hl) (by decide))
  have h3 : (1000000 : Int) * 10 ^ 30 * 1000 < 2 ^ 150 := by decide +kernel
  have h4 : ((2 ^ 150 : Nat) : Int) = 2 ^ 150 := by decide +kernel
  have h5 := h.1
  have h6 : ((cP b P pay s ps).natAbs : Int) = cP b P pay s ps := Int.natAbs_of_nonneg h5
  have h7 : ((cP b P pay s ps).natAbs : Int) < ((2 ^ 150 : Nat) : Int) := by rw [h6, h4]; exact Int.lt_of_le_of_lt h2 h3
  exact Int.ofNat_lt.mp h7
theorem cN_sz {b : Bk} {P : PrS} {pay : BSt → Str → Int} {s : BSt} {x : List Str × Nat} (S : Six b P pay) (g : PtG P x) : Sz 4000 (low (cN b P pay s x.1 x.2) 6) := by
  have h := cP_sz (s := s) (ps := [x]) S (fun y hy => by rw [List.mem_singleton.mp hy]; exact g) (by show 1 ≤ 1000; decide)
  have e : cP b P pay s [x] = cN b P pay s x.1 x.2 := by
    show cN b P pay s x.1 x.2 + 0 = _
    omega
  rw [e] at h
  exact h
/-! ### bests, in sixths -/
/-- own plans, general plans, the general make, in sixths -/
structure SixP (P : PrS) (ow ge : Str → Int) (gm : Int) : Prop where
  o : ∀ w, w ∈ P.ks.map (·.1) → qOwn P (lkP P w) = low (ow w) 6
  g : ∀ w, w ∈ P.ks.map (·.1) → (lkP P w).2 = low (ge w) 6
  m : P.gn = low gm 6
  ob : ∀ w, w ∈ P.ks.map (·.1) → 0 < ow w ∧ ow w ≤ 1000
  gb : ∀ w, w ∈ P.ks.map (·.1) → 0 < ge w ∧ ge w ≤ 1000
  mb : 0 ≤ gm ∧ gm ≤ 1000
/-- the best of one ask -/
def bst (ow ge : Str → Int) (s w : Str) : Int := if s = "own" then ow w else if s = "general" then ge w else if ow w ≤ ge w then ow w else ge w
theorem bst_b {P : PrS} {ow ge : Str → Int} {gm : Int} (S : SixP P ow ge gm) (s : Str) {w : Str} (hw : w ∈ P.ks.map (·.1)) : 0 < bst ow ge s w ∧ bst ow ge s w ≤ 1000 := by
  have h1 := S.ob w hw
  have h2 := S.gb w hw
  unfold bst
  split
  · exact h1
  · split
    · exact h2
    · split
      · exact h1
      · exact h2
def sumB (ow ge : Str → Int) (s : Str) (ws : List Str) : Int := (ws.map (bst ow ge s)).sum
def partB (ow ge : Str → Int) (s : Str) : Pts → Int
  | [] => 0
  | x :: r => sumB ow ge s x.1 * (x.2 : Nat) + partB ow ge s r
def asks : Pts → Int
  | [] => 0
  | x :: r => (x.1.length : Nat) * (x.2 : Nat) + asks r
theorem asks_snoc {x : List Str × Nat} : ∀ {ps : Pts}, asks (ps ++ [x]) = asks ps + ((x.1.length : Nat) : Int) * ((x.2 : Nat) : Int)
  | [] => by
    show ((x.1.length : Nat) : Int) * ((x.2 : Nat) : Int) + 0 = 0 + ((x.1.length : Nat) : Int) * ((x.2 : Nat) : Int)
    omega
  | y :: r => by
    show ((y.1.length : Nat) : Int) * ((y.2 : Nat) : Int) + asks (r ++ [x]) = ((y.1.length : Nat) : Int) * ((y.2 : Nat) : Int) + asks r + ((x.1.length : Nat) : Int) * ((x.2 : Nat) : Int)
    rw [asks_snoc]
    omega
theorem partB_snoc {ow ge : Str → Int} {s : Str} {x : List Str × Nat} : ∀ {ps : Pts}, partB ow ge s (ps ++ [x]) = partB ow ge s ps + sumB ow ge s x.1 * (x.2 : Nat)
  | [] => by
    show sumB ow ge s x.1 * (x.2 : Nat) + 0 = 0 + sumB ow ge s x.1 * (x.2 : Nat)
    omega
  | y :: r => by
    show sumB ow ge s y.1 * (y.2 : Nat) + partB ow ge s (r ++ [x]) = sumB ow ge s y.1 * (y.2 : Nat) + partB ow ge s r + sumB ow ge s x.1 * (x.2 : Nat)
    rw [partB_snoc]
    omega
theorem sumB_b {P : PrS} {ow ge : Str → Int} {gm : Int} {s : Str} (S : SixP P ow ge gm) : ∀ {ws : List Str}, (∀ w ∈ ws, w ∈ P.ks.map (·.1)) → 0 ≤ sumB ow ge s ws ∧ sumB ow ge s ws ≤ 1000 * (ws.length : Nat)
  | [], _ => ⟨Int.le_refl 0, Int.le_refl 0⟩
  | w :: r, h => by
    have h1 := bst_b S s (h w (List.mem_cons_self ..))
    have h2 := sumB_b S (s := s) (ws := r) fun v hv => h v (List.mem_cons_of_mem _ hv)
    have e : sumB ow ge s (w :: r) = bst ow ge s w + sumB ow ge s r := by
      unfold sumB
      rw [List.map_cons, List.sum_cons]
    have e2 : ((w :: r).length : Nat) = r.length + 1 := rfl
    rw [e, e2]
    push_cast
    omega
theorem sumB_pos {P : PrS} {ow ge : Str → Int} {gm : Int} {s : Str} (S : SixP P ow ge gm) {ws : List Str} (h : ∀ w ∈ ws, w ∈ P.ks.map (·.1)) (hne : ws ≠ []) : 0 < sumB ow ge s ws := by
  cases ws with
  | nil => exact absurd rfl hne
  | cons w r =>
    have h1 := bst_b S s (h w (List.mem_cons_self ..))
    have h2 := sumB_b S (s := s) (ws := r) fun v hv => h v (List.mem_cons_of_mem _ hv)
    have e : sumB ow ge s (w :: r) = bst ow ge s w + sumB ow ge s r := by
      unfold sumB
      rw [List.map_cons, List.sum_cons]
    rw [e]
    omega
/-- parts whose rows are short -/
structure PtsG2 (P : PrS) (ps : Pts) : Prop extends PtsG P ps where
  s : ∀ x ∈ ps, x.1.length ≤ 10
theorem mul_b {a n A B : Int} (h0 : 0 ≤ a) (h1 : a ≤ A) (h2 : 0 ≤ n) (h3 : n ≤ B) : 0 ≤ a * n ∧ a * n ≤ A * B := ⟨Int.mul_nonneg h0 h2, Int.mul_le_mul h1 h3 h2 (Int.le_trans h0 h1)⟩
theorem partB_b {P : PrS} {ow ge : Str → Int} {gm : Int} {s : Str} (S : SixP P ow ge gm) : ∀ {ps : Pts}, (∀ x ∈ ps, PtG P x) → (∀ x ∈ ps, x.1.length ≤ 10) → 0 ≤ partB ow ge s ps ∧ partB ow ge s ps ≤ 10000 * 10 ^ 30 * (ps.length : Nat)
  | [], _, _ => ⟨Int.le_refl 0, Int.le_refl 0⟩
  | x :: r, g, hs => by
    have gx := g x (List.mem_cons_self ..)
    have h1 := sumB_b S (s := s) gx.w
    have h2 := partB_b S (s := s) (ps := r) (fun y hy => g y (List.mem_cons_of_mem _ hy)) fun y hy => hs y (List.mem_cons_of_mem _ hy)
    have hl := hs x (List.mem_cons_self ..)
    have hn : ((x.2 : Nat) : Int) ≤ 10 ^ 30 := by rw [← ten30]; exact Int.ofNat_le.mpr gx.n
    have h3 := mul_b h1.1 (show sumB ow ge s x.1 ≤ 10000 by omega) (Int.natCast_nonneg x.2) hn
    have e2 : ((x :: r).length : Nat) = r.length + 1 := rfl
    rw [e2]
    show 0 ≤ sumB ow ge s x.1 * (x.2 : Nat) + partB ow ge s r ∧ sumB ow ge s x.1 * (x.2 : Nat) + partB ow ge s r ≤ _
    have h4 : (10000 : Int) * 10 ^ 30 = 10000000000000000000000000000000000 := by decide +kernel
    rw [h4] at h2 h3 ⊢
    generalize sumB ow ge s x.1 * (x.2 : Nat) = z at h3 ⊢
    push_cast
    omega
theorem big_sz {n : Int} (h0 : 0 ≤ n) (h1 : n ≤ 10 ^ 38) : Sz 4000 (low n 6) := by
  refine Sz.of_low (by decide) (lt_up (m := 150) ?_ (by decide)) (lt_up (m := 3) (by decide) (by decide))
  have h3 : (10 : Int) ^ 38 < 2 ^ 150 := by decide +kernel
  have h4 : ((2 ^ 150 : Nat) : Int) = 2 ^ 150 := by decide +kernel
  have h7 : (n.natAbs : Int) < ((2 ^ 150 : Nat) : Int) := by rw [Int.natAbs_of_nonneg h0, h4]; exact Int.lt_of_le_of_lt h1 h3
  exact Int.ofNat_lt.mp h7
theorem low6_le {a b : Int} : gMin (low a 6) (low b 6) ≤ 0 ↔ a ≤ b := by
  have h := (Frc.low (t := a) (u := 6) (by decide)).lt (Frc.low (t := b) (u := 6) (by decide))
  have e := (Frc.low (t := a) (u := 6) (by decide)).eq (Frc.low (t := b) (u := 6) (by decide))
  constructor
  · intro z
    rcases Int.lt_or_eq_of_le z with z | z
    · have := h.mp z
      omega
    · have := e.mp z
      omega
  · intro z
    rcases Int.lt_or_eq_of_le z with z | z
    · exact Int.le_of_lt (h.mpr (by omega))
    · exact Int.le_of_eq (e.mpr (by omega))
theorem qBest_low {P : PrS} {ow ge : Str → Int} {gm : Int} (S : SixP P ow ge gm) {w : Str} (hw : w ∈ P.ks.map (·.1)) : qBest P (lkP P w) = low (if ow w ≤ ge w then ow w else ge w) 6 := by
  unfold qBest
  rw [S.o w hw, S.g w hw]
  by_cases h : ow w ≤ ge w
  · rw [if_pos (low6_le.mpr h), if_pos h]
  · rw [if_neg fun z => h (low6_le.mp z), if_neg h]
/-- the best of parts, without the general make -/
def bestP (ow ge : Str → Int) (gm : Int) (s : Str) (ps : Pts) : Int := partB ow ge s ps + if s = "general" ∧ 0 < asks ps then gm else 0
def bestA (ow ge : Str → Int) (gm : Int) (s : Str) (ps : Pts) : Int := if s = "one" then (if bestP ow ge gm "own" ps ≤ bestP ow ge gm "general" ps then bestP ow ge gm "own" ps else bestP ow ge gm "general" ps) else bestP ow ge gm s ps
theorem bestP_b {P : PrS} {ow ge : Str → Int} {gm : Int} {s : Str} (S : SixP P ow ge gm) {ps : Pts} (g : PtsG2 P ps) : 0 ≤ bestP ow ge gm s ps ∧ bestP ow ge gm s ps ≤ 10 ^ 38 := by
  have h := partB_b S (s := s) g.p g.s
  have hm := S.mb
  have h1 : partB ow ge s ps ≤ 10000 * 10 ^ 30 * 100 := Int.le_trans h.2 (Int.mul_le_mul_of_nonneg_left (Int.ofNat_le.mpr g.l) (by decide))
  have h2 : (10000 : Int) * 10 ^ 30 * 100 + 1000 ≤ 10 ^ 38 := by decide +kernel
  have h0 := h.1
  unfold bestP
  generalize (10000 : Int) * 10 ^ 30 * 100 = A at h1 h2
  generalize (10 : Int) ^ 38 = B at h2 ⊢
  split <;> omega
end Ps

/-! Parts played; bests of rows: the walks. -/
namespace Ps
open PySem PySem.Spec PyProof.Rows PySem.W L2 LamX

def spChkPts0 (C CP : Addr) : Sp := fun vs H Q _ => ∃ pz v P ps, vs = [pz, v] ∧ PrAtS C CP H pz P ∧ KnG P.ks ∧ PtsV H v ps ∧ PtsG P ps ∧ ∀ H', Same H H' → Q .non H'
theorem spChkPts0_of {K : Frag} {C CP CR : Addr} {vs : List V} {H : Hp} {Q : VK} {E : XK} (h : spChkPts0 C CP vs H Q E) : spChkPts K C CP CR vs H Q E0 := by
  obtain ⟨pz, v, P, ps, rfl, h1, h2, h3, h4, k⟩ := h
  exact ⟨pz, v, P, true, rfl, h1, h2, h3.good h4, .inl ⟨rfl, k⟩⟩
def spChkRow0 (C CP : Addr) : Sp := fun vs H Q _ => ∃ pz l P, ∃ ws : List Str, vs = [pz, .ref l] ∧ PrAtS C CP H pz P ∧ KnG P.ks ∧ H l = some (.lst (ws.map V.str)) ∧ ws.length ≤ 1000 ∧ (∀ w ∈ ws, w ∈ P.ks.map (·.1)) ∧ ∀ H', Same H H' → Q .non H'
theorem spChkRow0_of {K : Frag} {C CP CR : Addr} {vs : List V} {H : Hp} {Q : VK} {E : XK} (h : spChkRow0 C CP vs H Q E) : spChkRow K C CP CR vs H Q E0 := by
  obtain ⟨pz, l, P, ws, rfl, h1, h2, h3, h4, h5, k⟩ := h
  exact ⟨pz, .ref l, P, true, rfl, h1, h2, rwv_ok h3 h4 h5, .inl ⟨rfl, k⟩⟩
/-- sorts -/
def isSort (s : Str) : Prop := s = "own" ∨ s = "general" ∨ s = "each" ∨ s = "one"
def spPriceBy (C CP : Addr) (ow ge : Str → Int) (gm : Int) : Sp := fun vs H Q _ => ∃ pz w s P, vs = [pz, .str w, .str s] ∧ PrAtS C CP H pz P ∧ PrG' P ∧ SixP P ow ge gm ∧ w ∈ P.ks.map (·.1) ∧ isSort s ∧ ∀ v H', Same H H' → Sh C H' v (low (bst ow ge s w) 6) → Q v H'
def spSumOf (C CP : Addr) (ow ge : Str → Int) (gm : Int) : Sp := fun vs H Q _ => ∃ pz v s P ps, vs = [pz, v, .str s] ∧ PrAtS C CP H pz P ∧ PrG' P ∧ SixP P ow ge gm ∧ PtsV H v ps ∧ PtsG2 P ps ∧ isSort s ∧ ∀ v H', Same H H' → Sh C H' v (low (bestP ow ge gm s ps) 6) → Q v H'
def spLesser (C CP : Addr) (ow ge : Str → Int) (gm : Int) : Sp := fun vs H Q _ => ∃ pz v s P ps, vs = [pz, v, .str s] ∧ PrAtS C CP H pz P ∧ PrG' P ∧ SixP P ow ge gm ∧ PtsV H v ps ∧ PtsG2 P ps ∧ isSort s ∧ ∀ v H', Same H H' → Sh C H' v (low (bestA ow ge gm s ps) 6) → Q v H'
def spBestOf (C CP : Addr) (ow ge : Str → Int) (gm : Int) : Sp := fun vs H Q _ => ∃ pz l s P, ∃ ws : List Str, vs = [pz, .ref l, .str s] ∧ PrAtS C CP H pz P ∧ PrG' P ∧ SixP P ow ge gm ∧ H l = some (.lst (ws.map V.str)) ∧ ws.length ≤ 10 ∧ (∀ w ∈ ws, w ∈ P.ks.map (·.1)) ∧ isSort s ∧ ∀ v H', Same H H' → Sh C H' v (low (bestA ow ge gm s [(ws, 1)]) 6) → Q v H'
def spCostOf (K : Frag) (T : List (Addr × Str)) (C CB CP : Addr) (b : Bk) (P : PrS) (pay : BSt → Str → Int) : Sp := fun vs H Q _ => ∃ vb vp l, ∃ ws : List Str, vs = [vb, vp, .ref l] ∧ BkAt C CB H vb b ∧ PrAtS C CP H vp P ∧ PrG' P ∧ H l = some (.lst (ws.map V.str)) ∧ ws.length ≤ 1000 ∧ (∀ w ∈ ws, w ∈ P.ks.map (·.1)) ∧ Tabs T H ∧
  ∀ v H', Gr T none H H' → Sh C H' v (low (paidR b P pay (b.begun false) ws) 6) → Q v H'
def spShareOf (K : Frag) (T : List (Addr × Str)) (C CB CP : Addr) (b : Bk) (P : PrS) (pay : BSt → Str → Int) (ow ge : Str → Int) (gm : Int) : Sp := fun vs H Q _ => ∃ vb vp l s, ∃ ws : List Str, vs = [vb, vp, .ref l, .str s] ∧ BkAt C CB H vb b ∧ PrAtS C CP H vp P ∧ PrG' P ∧ SixP P ow ge gm ∧ H l = some (.lst (ws.map V.str)) ∧ ws.length ≤ 10 ∧ ws ≠ [] ∧ (∀ w ∈ ws, w ∈ P.ks.map (·.1)) ∧ isSort s ∧ Tabs T H ∧
  ∀ v H', Gr T none H H' → Sh C H' v (gBy (low (paidR b P pay (b.begun false) ws) 6) (low (bestA ow ge gm s [(ws, 1)]) 6)) → Q v H'
section
variable {Z : Cz} {f C CB CP CK CR PR fR : Addr} {fd : FuncData} {T0 : List (Addr × Str)} {b : Bk} {P : PrS} {pay : BSt → Str → Int} {ow ge : Str → Int} {gm : Int}
theorem fold_low {f : Str → Int} : ∀ (ws : List Str) (m : Int), (ws.map fun w => low (f w) 6).foldl gAdd (low m 6) = low (m + (ws.map f).sum) 6
  | [], m => by
    show low m 6 = low (m + 0) 6
    rw [Int.add_zero]
  | w :: r, m => by
    show (r.map fun w => low (f w) 6).foldl gAdd (gAdd (low m 6) (low (f w) 6)) = _
    rw [low6_add, fold_low r, List.map_cons, List.sum_cons, Int.add_assoc]
end
end Ps

/-! Bests of rows, costs, shares. -/
namespace Ps
open PySem PySem.Spec PyProof.Rows PySem.W L2 LamX

def sortsV : List V := [.str "own", .str "general", .str "each", .str "one"]
structure SoB (Z : Cz) : Prop where
  sorts : ∃ a, Z.mg "SORTS" = some (.ref a) ∧ ∀ H, SqT Z.K H a sortsV
/-- no sort -/
instance decSort (s : Str) : Decidable (isSort s) := inferInstanceAs (Decidable (_ ∨ _))
theorem inV_sort (z : Str) : inV (.str z) sortsV = decide (isSort z) := by
  show (((("own" : Str) == z) || ((("general" : Str) == z) || ((("each" : Str) == z) || ((("one" : Str) == z) || false))))) = _
  rw [Bool.or_false]
  rw [decide_eq_decide.mpr (show isSort z ↔ (("own" : Str) = z ∨ ("general" : Str) = z ∨ ("each" : Str) = z ∨ ("one" : Str) = z) from ⟨fun h => h.imp Eq.symm fun h => h.imp Eq.symm fun h => h.imp Eq.symm Eq.symm, fun h => h.imp Eq.symm fun h => h.imp Eq.symm fun h => h.imp Eq.symm Eq.symm⟩)]
  rw [Bool.decide_or, Bool.decide_or, Bool.decide_or]
  rfl
def NoSort (K : Frag) (H : Hp) (v : V) : Prop := (∃ z, v = .str z ∧ ¬ isSort z) ∨ ∃ t, TyX K H v t ∧ kitOne K t (.type "str") = some false
def spCkSort (K : Frag) (CS : Addr) : Sp := fun vs H Q E => ∃ v, vs = [v] ∧ ((∃ s, v = .str s ∧ isSort s ∧ Q .non H) ∨ (NoSort K H v ∧ Rz CS "value" v H E))
def spCkSort0 : Sp := fun vs H Q _ => ∃ s, vs = [.str s] ∧ isSort s ∧ Q .non H
theorem spCkSort0_of {K : Frag} {CS : Addr} {vs : List V} {H : Hp} {Q : VK} {E : XK} (h : spCkSort0 vs H Q E) : spCkSort K CS vs H Q E0 := by
  obtain ⟨s, rfl, h1, k⟩ := h
  exact ⟨_, rfl, .inl ⟨s, rfl, h1, k⟩⟩
section
variable {Z : Cz} {f C CB CP CK CR CS PR fR PS_ fS : Addr} {fd : FuncData} {T0 : List (Addr × Str)} {b : Bk} {P : PrS} {pay : BSt → Str → Int} {ow ge : Str → Int} {gm : Int}
abbrev CCkPr (Z : Cz) (C CP : Addr) : Prop := Cal Z CX0 1 "check_prices" ["prices"] [] (spChk0 C CP)
abbrev CCkRw (Z : Cz) (C CP : Addr) : Prop := Cal Z CX0 4 "check_row" ["prices", "row"] [] (spChkRow0 C CP)
abbrev CCkPt (Z : Cz) (C CP : Addr) : Prop := Cal Z CX0 5 "check_parts" ["prices", "parts"] [] (spChkPts0 C CP)
abbrev CCkSo (Z : Cz) : Prop := Cal Z CX0 2 "check_sort" ["sort"] [] spCkSort0
theorem one_part {H : Hp} {l t r : Addr} {ws : List Str} (hl : H l = some (.lst [.ref t])) (ht : H t = some (.tup [.ref r, .int 1])) (hr : H r = some (.lst (ws.map V.str))) : PtsV H (.ref l) [(ws, 1)] := ⟨l, _, rfl, hl, by show 1 ≤ 1000; decide, Al.cons ⟨t, r, rfl, ht, hr⟩ Al.nil⟩
theorem one_g {P : PrS} {ws : List Str} (hz : ws.length ≤ 1000) (hw : ∀ w ∈ ws, w ∈ P.ks.map (·.1)) : PtsG P [(ws, 1)] := ⟨fun x hx => by
  rw [List.mem_singleton.mp hx]
  exact ⟨hw, hz, by show 1 ≤ 10 ^ 30; decide⟩, by show 1 ≤ 100; decide⟩
theorem one_g2 {P : PrS} {ws : List Str} (hz : ws.length ≤ 10) (hw : ∀ w ∈ ws, w ∈ P.ks.map (·.1)) : PtsG2 P [(ws, 1)] := ⟨one_g (by omega) hw, fun x hx => by
  rw [List.mem_singleton.mp hx]
  exact hz⟩
theorem bestA_b {P : PrS} {ow ge : Str → Int} {gm : Int} {s : Str} (S : SixP P ow ge gm) {ps : Pts} (g : PtsG2 P ps) : 0 ≤ bestA ow ge gm s ps ∧ bestA ow ge gm s ps ≤ 10 ^ 38 := by
  unfold bestA
  split
  · split
    · exact bestP_b S g
    · exact bestP_b S g
  · exact bestP_b S g
theorem bestA_pos {P : PrS} {ow ge : Str → Int} {gm : Int} {s : Str} (S : SixP P ow ge gm) {ws : List Str} (h : ∀ w ∈ ws, w ∈ P.ks.map (·.1)) (hne : ws ≠ []) : 0 < bestA ow ge gm s [(ws, 1)] := by
  have hp : ∀ s, 0 < bestP ow ge gm s [(ws, 1)] := fun s => by
    have h1 := sumB_pos S (s := s) h hne
    have hm := S.mb
    unfold bestP
    have e : partB ow ge s [(ws, 1)] = sumB ow ge s ws := by
      show sumB ow ge s ws * ((1 : Nat) : Int) + 0 = _
      simp
    rw [e]
    split <;> omega
  unfold bestA
  split
  · split
    · exact hp _
    · exact hp _
  · exact hp _
theorem eqv_nil {ws : List Str} (h : ws ≠ []) : PyData.eqv (.list (ws.map PyData.str)) (.list []) = false := by
  cases ws with
  | nil => exact absurd rfl h
  | cons w r => rfl
end
end Ps

/-! No instance of the class. -/
namespace Ps
open PySem PySem.Spec PyProof.Rows PySem.W L2

def NoIn (K : Frag) (C : Addr) (H : Hp) (v : V) : Prop := ∃ t, TyX K H v t ∧ kitOne K t (.ref C) = some false
theorem NoIn.mono {K : Frag} {C : Addr} {H H' : Hp} {v : V} (e : Same H H') (h : NoIn K C H v) : NoIn K C H' v := let ⟨t, h1, h2⟩ := h; ⟨t, tyX_same e h1, h2⟩
end Ps

set_option pp.maxSteps 700
/-! The asks of bests and costs that are refused. -/
namespace Ps
open PySem PySem.Spec PyProof.Rows PySem.W L2 LamX

/-- no instance of the class at C: refused with CA -/
theorem NoSort.mono {K : Frag} {H H' : Hp} {v : V} (e : Same H H') (h : NoSort K H v) : NoSort K H' v := h.elim .inl fun ⟨t, h1, h2⟩ => .inr ⟨t, tyX_same e h1, h2⟩
def spCkPX (K : Frag) (C CP CA : Addr) : Sp := fun vs H Q E => ∃ v, vs = [v] ∧ ((∃ P, PrAtS C CP H v P ∧ Q .non H) ∨ (NoIn K CP H v ∧ Rz CA "value" v H E))
def spCkBX (K : Frag) (C CB CA : Addr) : Sp := fun vs H Q E => ∃ v, vs = [v] ∧ ((∃ b, BkAt C CB H v b ∧ Q .non H) ∨ (NoIn K CB H v ∧ Rz CA "value" v H E))
/-- what a row or a sort is refused for -/
def RowSort (K : Frag) (CR CS : Addr) (P : PrS) (row sort : V) (H : Hp) (E : XK) : Prop := (RwV K H P row false ∧ Rz CR "value" row H E) ∨ (RwV K H P row true ∧ NoSort K H sort ∧ ∀ H', Same H H' → Rz CS "value" sort H' E)
def spBestX (K : Frag) (C CP CA CR CS : Addr) : Sp := fun vs H Q E => ∃ pz row sort, vs = [pz, row, sort] ∧ ((NoIn K CP H pz ∧ Rz CA "value" pz H E) ∨ ∃ P, PrAtS C CP H pz P ∧ KnG P.ks ∧ RowSort K CR CS P row sort H E)
def spBestXO (K : Frag) (C CP CA CR CS : Addr) (ow ge : Str → Int) (gm : Int) : Sp := fun vs H Q E => ∃ pz row sort, vs = [pz, row, sort] ∧ ((NoIn K CP H pz ∧ Rz CA "value" pz H E) ∨ ∃ P, PrAtS C CP H pz P ∧ KnG P.ks ∧ (RowSort K CR CS P row sort H E ∨
  ∃ l s, ∃ ws : List Str, row = .ref l ∧ sort = .str s ∧ PrG' P ∧ SixP P ow ge gm ∧ H l = some (.lst (ws.map V.str)) ∧ ws.length ≤ 10 ∧ (∀ w ∈ ws, w ∈ P.ks.map (·.1)) ∧ isSort s ∧ ∀ v H', Same H H' → Sh C H' v (low (bestA ow ge gm s [(ws, 1)]) 6) → Q v H'))
def spCostXO (K : Frag) (T : List (Addr × Str)) (C CB CP CA CR : Addr) (b : Bk) (P : PrS) (pay : BSt → Str → Int) : Sp := fun vs H Q E => ∃ bk pz row, vs = [bk, pz, row] ∧ ((NoIn K CB H bk ∧ Rz CA "value" bk H E) ∨ (∃ b, BkAt C CB H bk b ∧ NoIn K CP H pz ∧ Rz CA "value" pz H E) ∨ (∃ b P, BkAt C CB H bk b ∧ PrAtS C CP H pz P ∧ KnG P.ks ∧ RwV K H P row false ∧ Rz CR "value" row H E) ∨
  ∃ l, ∃ ws : List Str, row = .ref l ∧ BkAt C CB H bk b ∧ PrAtS C CP H pz P ∧ PrG' P ∧ H l = some (.lst (ws.map V.str)) ∧ ws.length ≤ 1000 ∧ (∀ w ∈ ws, w ∈ P.ks.map (·.1)) ∧ Tabs T H ∧ ∀ v H', Gr T none H H' → Sh C H' v (low (paidR b P pay (b.begun false) ws) 6) → Q v H')
def spCostX (K : Frag) (C CB CP CA CR : Addr) : Sp := fun vs H Q E => ∃ bk pz row, vs = [bk, pz, row] ∧ ((NoIn K CB H bk ∧ Rz CA "value" bk H E) ∨ ((∃ b, BkAt C CB H bk b) ∧ ((NoIn K CP H pz ∧ Rz CA "value" pz H E) ∨ ∃ P, PrAtS C CP H pz P ∧ KnG P.ks ∧ RwV K H P row false ∧ Rz CR "value" row H E)))
def spPartsX (K : Frag) (C CP CA CT CS : Addr) : Sp := fun vs H Q E => ∃ pz ps sort, vs = [pz, ps, sort] ∧ ((NoIn K CP H pz ∧ Rz CA "value" pz H E) ∨ ∃ P, PrAtS C CP H pz P ∧ KnG P.ks ∧ ((PtsB K H P ps false ∧ Rz CT "value" ps H E) ∨ (PtsB K H P ps true ∧ NoSort K H sort ∧ ∀ H', Same H H' → Rz CS "value" sort H' E)))
def spShareX (K : Frag) (C CB CP CA CR CS : Addr) : Sp := fun vs H Q E => ∃ bk pz row sort, vs = [bk, pz, row, sort] ∧ ((NoIn K CB H bk ∧ Rz CA "value" bk H E) ∨ ((∃ b, BkAt C CB H bk b) ∧ ((NoIn K CP H pz ∧ Rz CA "value" pz H E) ∨ ∃ P, PrAtS C CP H pz P ∧ KnG P.ks ∧
  ((RwV K H P row false ∧ Rz CR "value" row H E) ∨ ∃ (l : Addr) (ws : List Str), row = .ref l ∧ H l = some (.lst (ws.map V.str)) ∧ ws.length ≤ 1000 ∧ (∀ w ∈ ws, w ∈ P.ks.map (·.1)) ∧ ((ws = [] ∧ ∀ H', Same H H' → Rz CR "value" row H' E) ∨ (ws ≠ [] ∧ NoSort K H sort ∧ ∀ H', Same H H' → Rz CS "value" sort H' E))))))
def spPlayedX (K : Frag) (C CB CP CA CT : Addr) : Sp := fun vs H Q E => ∃ bk pz ps, vs = [bk, pz, ps] ∧ ((NoIn K CB H bk ∧ Rz CA "value" bk H E) ∨ ((∃ b, BkAt C CB H bk b) ∧ ((NoIn K CP H pz ∧ Rz CA "value" pz H E) ∨ ∃ P, PrAtS C CP H pz P ∧ KnG P.ks ∧ PtsB K H P ps false ∧ Rz CT "value" ps H E)))
section
variable {Z : Cz} {f C CB CP CA CR CS CT PA PR PS fA fR fS : Addr} {fd : FuncData} {T0 : List (Addr × Str)} {b : Bk} {P : PrS} {pay : BSt → Str → Int} {ow ge : Str → Int} {gm : Int}
theorem ok_ckPX (F : Fun Z.K "check_prices" "check_prices" s_check_prices f fd) (W : WdT Z) (D : PrC Z CP) (TA : ExT Z.K Z.mg "BadArgument" "value" "BadArgument.__init__" CA PA fA) : Z.ok (CXN Z) 2 f fd ["prices"] (spCkPX Z.K C CP CA) := by
  refine Fun.okN F sc_check_prices (fun vs H Q E h => ?_) (fun cdv A outer s H vs Q E hr h => ?_)
  · obtain ⟨x, rfl, _⟩ := h
    rfl
  · obtain ⟨v, rfl, h⟩ := h
    refine ⟨_, (pss_one (ps_if (pt_not (pt_val (pe_callB call_isi (by rfl) W.isi (by decide +kernel) (pa_cons (pv 0) (pa_cons (pe_glob (v := .ref CP) rfl D.mg rfl) pa_nil)))))
      (pss_one (ps_raiseX TA fl_value hr (L2N.takes_of rfl rfl rfl rfl) (pa_cons (pv 0) pa_nil) rfl))
      pss_nil)), ?_⟩
    rcases h with ⟨P, hP, k⟩ | ⟨⟨t, ty, hk⟩, k⟩
    · obtain ⟨xa, dx, _, _, _, _, rfl, hx, _⟩ := hP
      exact ⟨_, rfl, _, _, _, _, true, rfl, .own CP, .base (.ins hx D.cl D.ha D.hn D.htk D.hm), D.kCC, _, rfl, iteF k⟩
    · exact ⟨_, rfl, _, _, _, _, false, rfl, .own CP, ty, hk, _, rfl, iteT ⟨_, rfl, _, rfl, k.now⟩⟩
theorem ok_ckBX (F : Fun Z.K "check_book" "check_book" s_check_book f fd) (KB : BkC Z CB) (J : BkI Z CB) (TA : ExT Z.K Z.mg "BadArgument" "value" "BadArgument.__init__" CA PA fA) : Z.ok (CXN Z) 2 f fd ["book"] (spCkBX Z.K C CB CA) := by
  refine Fun.okN F sc_check_book (fun vs H Q E h => ?_) (fun cdv A outer s H vs Q E hr h => ?_)
  · obtain ⟨x, rfl, _⟩ := h
    rfl
  · obtain ⟨v, rfl, h⟩ := h
    refine ⟨_, (pss_one (ps_if (pt_not (pt_val (pe_callB call_isi (by rfl) J.isi (by decide +kernel) (pa_cons (pv 0) (pa_cons (pe_glob (v := .ref CB) rfl KB.mg rfl) pa_nil)))))
      (pss_one (ps_raiseX TA fl_value hr (L2N.takes_of rfl rfl rfl rfl) (pa_cons (pv 0) pa_nil) rfl))
      pss_nil)), ?_⟩
    rcases h with ⟨b, hb, k⟩ | ⟨⟨t, ty, hk⟩, k⟩
    · obtain ⟨a, dx, d, rfl, ha, _⟩ := hb
      exact ⟨_, rfl, _, _, _, _, true, rfl, .own CB, .base (.ins ha KB.cl J.ha J.hn J.htk J.hm), J.kCC, _, rfl, iteF k⟩
    · exact ⟨_, rfl, _, _, _, _, false, rfl, .own CB, ty, hk, _, rfl, iteT ⟨_, rfl, _, rfl, k.now⟩⟩
end
end Ps

/-! for loops in generators whose body hands out. -/
namespace Ps
open PySem PySem.Spec PyProof.Rows L2

section
variable {prog : Program} {w : World} {A : Around} {R : GenEnd} {Y : Protocol} {n : Nat} {s₀ s : Shared} {c : Code} {fs : List Frame} {env : Env}
theorem seg_stand {α : Type} {k : Unit → Sem α} {K : α → Sem PySem.Fin} {J : Value → Sem PySem.Fin} {gd : Bool → Bool} {lv : List Value → List Value} {p : Pos} (h : Seg (model prog w) A R Y n s₀ c ((k ()).wrap K J gd lv) fs s) : Seg (model prog w) A R Y n s₀ c ((standAt p >>= k).wrap K J gd lv) fs s := seg_at h
theorem seg_forG {K : Flow → Sem PySem.Fin} {J : Value → Sem PySem.Fin} {gd : Bool → Bool} {lv : List Value → List Value} {target iter : Expr} {body : List Stmt} {pos : Pos} {E : Value → Shared → Prop}
    (h : wpAny (model prog w) (A.over c fs) (eval iter env) (fun x s1 => wpAny (model prog w) (A.over c fs) (pyIter x) (fun it s2 => ∀ p, Seg (model prog w) A R Y n s₀ (.forLoop target it body [] env) ((model prog w).den (.forLoop target it body [] env))
        (.ret (fun r => ((match r with | .ok f => (.pure f : Sem Flow) | .error e => .raise e).onRaise (cameBack env)).wrap K J gd lv) none (gd false) (lv []) c p [] :: fs) s2) E s1) E s)
    (hE : ∀ x s', E x s' → Seg (model prog w) A R Y n s₀ c (J x) fs s') (hs : ∀ x, foldedSetIterable iter env x = pure x) :
    Seg (model prog w) A R Y n s₀ c ((exec (.For target iter body [] pos) env).wrap K J gd lv) fs s := by
  rw [exec_For]
  refine seg_stand ?_
  refine seg_bind_wrap (wpAny_mono h (fun x s1 h1 => ?_) hE)
  rw [hs]
  refine seg_stand ?_
  refine seg_bind_wrap (wpAny_holding (wpAny_mono h1 (fun it s2 h2 => ?_) hE))
  exact seg_call h2
/-- what a loop's code does with an exception -/
abbrev lotGoes (env : Env) (x : Value) : Sem PySem.Fin := (do noteFrame x env; theTreesLotGoes x : Sem Unit).wrap (fun _ => .raise x) .raise id id
theorem seg_forTurn {target : Expr} {it : Value} {body : List Stmt} {E : Value → Shared → Prop}
    (h : wpAny (model prog w) (A.over (.forLoop target it body [] env) fs) (pyNext it) (fun r s1 => match r with
      | none => Seg (model prog w) A R Y n s₀ (.block [] env) (leafOf (.ok .next)) fs s1
      | some v => wpAny (model prog w) (A.over (.forLoop target it body [] env) fs) (letOwnedTupleGo target it v) (fun _ s2 => wpAny (model prog w) (A.over (.forLoop target it body [] env) fs) (assign target env v) (fun _ s3 =>
          Seg (model prog w) A R Y n s₀ (.forLoop target it body [] env) ((execs body env).wrap (fun f => match f with
            | .next | .cont => .pure (.again (.forLoop target it body [] env))
            | .brk => .pure (.done .next)
            | .ret v => .pure (.done (.ret v))) (lotGoes env) id id) fs s3) E s2) E s1) E s)
    (hE : ∀ x s', E x s' → Seg (model prog w) A R Y n s₀ (.forLoop target it body [] env) (lotGoes env x) fs s') :
    Seg (model prog w) A R Y n s₀ (.forLoop target it body [] env) ((model prog w).den (.forLoop target it body [] env)) fs s := by
  have hE' : ∀ x s', E x s' → Seg (model prog w) A R Y n s₀ (.forLoop target it body [] env) ((do noteFrame x env; theTreesLotGoes x : Sem Unit).bind fun _ => .raise x) fs s' := fun x s' hx => by
    rw [Sem.bind_eq_wrap]
    exact hE x s' hx
  show Seg _ A R Y n s₀ _ ((forTurn target it body [] env).onRaise (fun x => do noteFrame x env; theTreesLotGoes x)) fs s
  unfold forTurn
  rw [Sem.onRaise_eq_wrap]
  refine seg_stand ?_
  refine seg_bind_wrap (wpAny_onRaise (wpAny_mono h (fun r s1 h1 => ?_) fun x s' hx => wpAny_standAt (hE' x s' hx)))
  cases r with
  | none => exact seg_again rfl h1
  | some v =>
    refine seg_bind_wrap (wpAny_mono h1 (fun _ s2 h2 => ?_) hE')
    refine seg_bind_wrap (wpAny_mono h2 (fun _ s3 h3 => ?_) hE')
    show Seg _ A R Y n s₀ _ (Sem.wrap _ _ _ _ ((execs body env) >>= _)) fs s3
    rw [Sem.bind_eq_wrap', Sem.wrap_wrap]
    rw [Sem.wrap_congr (execs body env) _ _ (K' := fun f => match f with
            | .next | .cont => .pure (.again (.forLoop target it body [] env))
            | .brk => .pure (.done .next)
            | .ret v => .pure (.done (.ret v))) (H' := lotGoes env)
        (fun f => by cases f <;> rfl)
        (fun e => by first | exact Sem.bind_eq_wrap _ _ | (show (do noteFrame e env; theTreesLotGoes e : Sem Unit).bind (fun _ => .raise e) = _; rw [Sem.bind_eq_wrap]))]
    exact h3
end
section
variable {X : Cx} {iter tg : Expr} {body : List Stmt} {wi : TI} {g : TG} {tb : TGn} {pos : Pos}
/-- W: the invariant by the turn, a measure, and what is out -/
def tGFor (wi : TI) (g : TG) (tb : TGn) : TGn := fun D ys σ H => wi σ H fun J H1 => ∃ W : Nat → Nat → List V → L2.St → Hp → Prop, (∃ m, W 0 m ys σ H1) ∧ ∀ i m ys σ H, W i m ys σ H →
  (J.stop i H ∧ D.nx ys σ H) ∨ (J.go i H ∧ ∃ N : List V → L2.St → Hp → Prop, (∀ ys' σ' H', N ys' σ' H' → ∃ m', m' < m ∧ W (i + 1) m' ys' σ' H') ∧ ∀ x H', J.yld i H x H' → g x σ H' fun σ2 H2 => tb { D with nx := N, ct := N, bk := D.nx } ys σ2 H2)
theorem gs_for (hp : PassesOwn (model X.prog X.w) X.A X.env X.xe) (hc : X.calm = true) (hi : PI X tg iter wi) (hg : PG X tg g) (hb : GSs X body tb)
    (hs : ∀ x, foldedSetIterable iter X.env x = pure x := by intro _; rfl) : GS X (.For tg iter body [] pos) (tGFor wi g tb) := by
  refine ⟨fun A S ip R n ys s₀ c fs K J gd lv s σ H D G hn k hI ht => ?_⟩
  obtain ⟨acc, cc, r, I⟩ := hI
  refine seg_forG (E := X.xe) ?_ (fun x s' hx => k.exc n s₀ x s' hx) hs
  rw [G.over]
  refine thn (hi.run _ s σ H _ I ht) fun v s1 h1 => thn h1 fun itv s2 h2 p => ?_
  obtain ⟨it, fp, tn, Jt, H2, e, I2, T, st2, f2, W, ⟨m0, w0⟩, turn⟩ := h2
  subst e
  have gl := fun (kk : Result → Sem PySem.Fin) => gc_loop (k := kk) (c' := .forLoop tg (.ref it) body [] X.env) (l := lv []) (kp := []) (p := p) G rfl rfl
  have glb := fun (kk : Result → Sem PySem.Fin) => gc_loop (k := kk) (c' := .block [] X.env) (l := lv []) (kp := []) (p := p) G rfl rfl
  have nS : ∀ b ∈ fp, b ≠ S := fun b hb z => (f2 b hb).2.2.2.2.2 (S, lstObj acc cc) (List.mem_append_right _ List.mem_cons_self) z.symm
  have stat : ∀ {H' : Hp} {acc' : Array Value} {cc' : Nat}, (∀ b ∈ fp, H' b = none) → ∀ b ∈ fp, FpOk X ((S, lstObj acc' cc') :: ip) H' b := fun {H' acc' cc'} hn b hb => by
    obtain ⟨_, q1, q2, q3, q4, q5⟩ := f2 b hb
    refine ⟨hn b hb, q1, q2, q3, q4, fun p hp => ?_⟩
    rcases List.mem_append.mp hp with hp | hp
    · exact q5 p (List.mem_append_left _ hp)
    · rcases List.mem_cons.mp hp with hp | hp
      · rw [hp]
        exact (nS b hb).symm
      · exact q5 p (List.mem_append_right _ (List.mem_cons_of_mem _ hp))
  have loop : ∀ (m i n : Nat) (ys : List V) (s₀ s : Shared) (σ : L2.St) (H : Hp), n + ys.length = sizeLine → W i m ys σ H → GI X S ip ys σ H s → tn i s.heap → (∀ b ∈ fp, H b = none) →
      Seg (model X.prog X.w) A R (GY X S) n s₀ (.forLoop tg (.ref it) body [] X.env) ((model X.prog X.w).den (.forLoop tg (.ref it) body [] X.env))
        (.ret (fun r => ((match r with | .ok f => (.pure f : Sem Flow) | .error e => .raise e).onRaise (cameBack X.env)).wrap K J gd lv) none (gd false) (lv []) c p [] :: fs) s := by
    intro m
    induction m using Nat.strongRecOn with
    | ind m ih =>
      intro i n ys s₀ s σ H hn w hI st fr
      have ee : ∀ (n : Nat) (s₀ : Shared) (x : Value) (s' : Shared), X.xe x s' → Seg (model X.prog X.w) A R (GY X S) n s₀ (.forLoop tg (.ref it) body [] X.env) (lotGoes X.env x)
          (.ret (fun r => ((match r with | .ok f => (.pure f : Sem Flow) | .error e => .raise e).onRaise (cameBack X.env)).wrap K J gd lv) none (gd false) (lv []) c p [] :: fs) s' := fun n s₀ x s' hx => by
        refine seg_wrap ?_
        rw [(gl _).over]
        refine wpAny_bind (wpAny_mono (hp x s' hx) (fun _ s'' hcb => wpAny_theTreesLotGoes ?_) fun y s'' hcb => ?_)
        · exact seg_leaf (.error x) (seg_cameBack G k hcb)
        · exact seg_leaf (.error y) (seg_cameBack G k hcb)
      refine seg_forTurn (E := X.xe) ?_ (fun x s' hx => ee n s₀ x s' hx)
      rw [(gl _).over]
      obtain ⟨acc, cc, r, I⟩ := hI
      rcases turn i m ys σ H w with ⟨stop, qn⟩ | ⟨go, N, hN, step⟩
      · refine thn (T.done X rfl rfl rfl hc i _ s σ H X.xe I (stat fr) st stop) fun r1 s4 ⟨hr, I4⟩ => ?_
        subst hr
        exact seg_leaf (.ok .next) (k.ok n ys s₀ s4 .next hn ⟨σ, H, ⟨acc, cc, r, I4⟩, qn⟩)
      · refine thn (T.item X rfl rfl rfl hc i _ s σ H X.xe I (stat fr) st go) fun r1 s4 ⟨u, hr, h4⟩ => ?_
        subst hr
        refine thn h4 fun _ s5 ⟨x, H5, I5, r5, y5, st5, fr5⟩ => ?_
        have I5' := I5.pinned (stat fr5) (T.obj _ _ st5)
        refine thn (hg.run _ s5 σ H5 x u _ I5' r5 (step x H5 y5)) fun _ s6 ⟨σ6, H6, I6, q6⟩ => ?_
        have G' : GC X S (ip ++ pinsAt fp s5.heap) A (.forLoop tg (.ref it) body [] X.env) (.ret (fun r => ((match r with | .ok f => (.pure f : Sem Flow) | .error e => .raise e).onRaise (cameBack X.env)).wrap K J gd lv) none (gd false) (lv []) c p [] :: fs) id :=
          ⟨G.pn, fun p hp => (List.mem_append.mp hp).elim (G.ip p) fun z => nS _ (of_pinsAt z).1, G.apart, (gl _).over, (gl _).split, (gl _).guard, rfl⟩
        have back : ∀ {ys' : List V} {σ7 : L2.St} {H7 : Hp} {s7 : Shared}, GI X S (ip ++ pinsAt fp s5.heap) ys' σ7 H7 s7 → GI X S ip ys' σ7 H7 s7 ∧ tn (i + 1) s7.heap ∧ ∀ b ∈ fp, H7 b = none := fun {ys' σ7 H7 s7} h => by
          obtain ⟨acc7, cc7, r7, I7⟩ := h
          have I7' : Inv X (((S, lstObj acc7 cc7) :: ip) ++ pinsAt fp s5.heap) σ7 H7 s7 := I7
          refine ⟨⟨acc7, cc7, r7, I7'.unpinned⟩, T.keep _ _ _ st5 fun b hb o e => (I7'.pin (b, o) (List.mem_append_right _ (List.mem_append_right _ (mem_pinsAt hb e)))).1, fun b hb => ?_⟩
          obtain ⟨o, e, d⟩ := T.obj _ _ st5 b hb
          exact (I7'.pin (b, o) (List.mem_append_right _ (List.mem_append_right _ (mem_pinsAt hb e)))).2.1
        refine hb.run A S (ip ++ pinsAt fp s5.heap) R n ys s₀ _ _ _ _ id id s6 σ6 H6 { D with nx := N, ct := N, bk := D.nx } G' hn ⟨fun n' ys' s₀' s7 f hn' hs => ?_, fun n' s₀' x s3 hx => ee n' s₀' x s3 hx⟩ ⟨acc, cc, r, I6⟩ q6
        cases f with
        | next =>
          obtain ⟨σ7, H7, I7, n7⟩ := hs
          obtain ⟨m', hm, w7⟩ := hN ys' σ7 H7 n7
          obtain ⟨b1, b2, b3⟩ := back I7
          exact seg_again rfl (ih m' hm (i + 1) n' ys' s₀' s7 σ7 H7 hn' w7 b1 b2 b3)
        | cont =>
          obtain ⟨σ7, H7, I7, n7⟩ := hs
          obtain ⟨m', hm, w7⟩ := hN ys' σ7 H7 n7
          obtain ⟨b1, b2, b3⟩ := back I7
          exact seg_again rfl (ih m' hm (i + 1) n' ys' s₀' s7 σ7 H7 hn' w7 b1 b2 b3)
        | brk =>
          obtain ⟨σ7, H7, I7, q7⟩ := hs
          exact seg_leaf (.ok .next) (k.ok n' ys' s₀' s7 .next hn' ⟨σ7, H7, (back I7).1, q7⟩)
        | ret v =>
          obtain ⟨x7, σ7, H7, I7, r7, q7⟩ := hs
          exact seg_leaf (.ok (.ret v)) (k.ok n' ys' s₀' s7 (.ret v) hn' ⟨x7, σ7, H7, (back I7).1, r7, q7⟩)
  exact loop m0 0 n ys s₀ s2 σ H2 hn w0 ⟨acc, cc, r, I2⟩ st2 fun b hb => (f2 b hb).1
/-- for x in l, in a generator -/
theorem for_listG {K : PySem.W.Frag} {a : Addr} {xs : List V} {g : TG} {tb : TGn} {D : GEnds} {ys : List V} {σ : L2.St} {H : Hp} (Pv : Nat → List V → L2.St → Hp → Prop) (h0 : Pv 0 ys σ H) (hl : ∀ i ys σ H, i ≤ xs.length → Pv i ys σ H → SqL K H a xs)
    (hs : ∀ i x ys σ H, xs[i]? = some x → Pv i ys σ H → g x σ H fun σ2 H2 => tb { D with nx := Pv (i + 1), ct := Pv (i + 1), bk := D.nx } ys σ2 H2) (hd : ∀ ys σ H, Pv xs.length ys σ H → D.nx ys σ H) :
    ∃ W : Nat → Nat → List V → L2.St → Hp → Prop, (∃ m, W 0 m ys σ H) ∧ ∀ i m ys σ H, W i m ys σ H →
      ((Itl K a).stop i H ∧ D.nx ys σ H) ∨ ((Itl K a).go i H ∧ ∃ N : List V → L2.St → Hp → Prop, (∀ ys' σ' H', N ys' σ' H' → ∃ m', m' < m ∧ W (i + 1) m' ys' σ' H') ∧ ∀ x H', (Itl K a).yld i H x H' → g x σ H' fun σ2 H2 => tb { D with nx := N, ct := N, bk := D.nx } ys σ2 H2) := by
  refine ⟨fun i m zs τ G => m + i = xs.length ∧ Pv i zs τ G, ⟨xs.length, rfl, h0⟩, fun i m zs τ G hw => ?_⟩
  have hle : i ≤ xs.length := by omega
  have at_ := hl i zs τ G hle hw.2
  by_cases hi : i = xs.length
  · subst hi
    exact .inl ⟨⟨xs, at_, Nat.le_refl _⟩, hd zs τ G hw.2⟩
  · have hlt : i < xs.length := by omega
    refine .inr ⟨⟨xs, xs[i], at_, List.getElem?_eq_getElem hlt⟩, Pv (i + 1), fun ys' τ' G' p' => ⟨xs.length - (i + 1), by omega, by omega, p'⟩, fun x G' y => ?_⟩
    obtain ⟨rfl, y⟩ := y
    exact hs i x zs τ _ (y xs at_) hw.2
/-- a generator def -/
theorem Fun.okY {Z : Cz} {x qual : Str} {st : Stmt} {f : Addr} {fd : FuncData} {N ps : List Str} {k : Nat} {sp : SpG} (F : Fun Z.K x qual st f fd) (S : GScope N ps (defScope st)) (len : ∀ vs H Q E, sp vs H Q E → vs.length = ps.length)
    (hbody : ∀ (cdv : Value) (A : Around) (outer : List Env) (s : Shared) (H : Hp) (vs : List V) (Q : List V → Hp → Prop) (E : XK) (pn : List (Addr × Obj)), Room k (A.deeper (envOfC qual (defScope st) s.heap.objs.size f cdv)) → sp vs H Q E →
      ∃ t, GSs (gcxOf Z.P Z.w Z.K Z.mg Z.base N qual (defScope st) f cdv A outer s H E pn) (defBody st) t ∧ t { nx := fun ys _ H' => Q ys H', rt := fun ys v H' => v = .non ∧ Q ys H' } [] (start N vs) H) :
    GFn Z.P Z.w Z.K Z.mg Z.base (k + 1) f fd ps sp := by
  obtain ⟨oc, od, kV, doc, pm, an, cdv, ct, osl, rfl, lk, hcd⟩ := F.ex
  exact gfn_of lk hcd S len fun A outer s H vs Q E pn hr hsp => hbody cdv A outer s H vs Q E pn hr hsp
end
end Ps

/-! a generator that is woken once: its first item, its end or its error; «for x in f(..): return ..» over it. -/
namespace Ps
open PySem PySem.Spec PyProof.Rows L2 GenW

/-- the first item is wished for by Qy; what comes behind it is nobody's -/
def Y1 (X : Cx) (Qy : VK) : Protocol := fun _ _ v s _ => ∃ x ip σ H, L2.Inv X ip σ H s ∧ RelV x v ∧ Qy x H
structure C1 (X : Cx) (A : Around) (c : Code) (fs : List Frame) (gd : Bool → Bool) : Prop where
  ar : A.over c fs = X.A
  sp : splitAtGen fs = none
  ug : fs.any Frame.guarded = false
  g0 : gd false = false
structure K1 (X : Cx) (ip : List (Addr × Obj)) (A : Around) (R : GenEnd) (Qy : VK) (c : Code) (fs : List Frame) (K : Flow → Sem PySem.Fin) (J : Value → Sem PySem.Fin) (D : Ends) : Prop where
  on : ∀ (s₀ s : Shared) (f : Flow), SP X ip D f s → Seg (model X.prog X.w) A R (Y1 X Qy) 1 s₀ c (K f) fs s
  er : ∀ (s₀ : Shared) (e : Value) (s : Shared), X.xe e s → Seg (model X.prog X.w) A R (Y1 X Qy) 1 s₀ c (J e) fs s
abbrev T1 := VK → TS
structure S1 (X : Cx) (st : Stmt) (t : T1) : Prop where
  go : ∀ (A : Around) (ip : List (Addr × Obj)) (R : GenEnd) (Qy : VK) (s₀ : Shared) (c : Code) (fs : List Frame) (K : Flow → Sem PySem.Fin) (J : Value → Sem PySem.Fin) (gd : Bool → Bool) (lv : List Value → List Value) (s : Shared) (σ : L2.St) (H : Hp) (D : Ends),
    C1 X A c fs gd → K1 X ip A R Qy c fs K J D → L2.Inv X ip σ H s → t Qy D σ H → Seg (model X.prog X.w) A R (Y1 X Qy) 1 s₀ c ((exec st X.env).wrap K J gd lv) fs s
structure Ss1 (X : Cx) (st : List Stmt) (t : T1) : Prop where
  go : ∀ (A : Around) (ip : List (Addr × Obj)) (R : GenEnd) (Qy : VK) (s₀ : Shared) (c : Code) (fs : List Frame) (K : Flow → Sem PySem.Fin) (J : Value → Sem PySem.Fin) (gd : Bool → Bool) (lv : List Value → List Value) (s : Shared) (σ : L2.St) (H : Hp) (D : Ends),
    C1 X A c fs gd → K1 X ip A R Qy c fs K J D → L2.Inv X ip σ H s → t Qy D σ H → Seg (model X.prog X.w) A R (Y1 X Qy) 1 s₀ c ((execs st X.env).wrap K J gd lv) fs s
section
variable {X : Cx} {st : Stmt} {rest : List Stmt}
theorem s1_ps {t : TS} (h : PS X st t) : S1 X st (fun _ => t) :=
  ⟨fun A ip R Qy s₀ c fs K J gd lv s σ H D g k I q => seg_wrap (by rw [g.ar]; exact wpAny_mono (h.run ip s σ H D I q) (fun f s' hs => k.on s₀ s' f hs) fun x s' hx => k.er s₀ x s' hx)⟩
theorem ss1_never : Ss1 X rest (fun _ _ _ _ => False) := ⟨fun A ip R Qy s₀ c fs K J gd lv s σ H D g k I q => q.elim⟩
theorem ss1_nil : Ss1 X [] (fun _ D σ H => D.nx σ H) := ⟨fun A ip R Qy s₀ c fs K J gd lv s σ H D g k I q => seg_execs_nil (k.on s₀ s .next ⟨σ, H, I, q⟩)⟩
theorem ss1_cons {t u : T1} (a : S1 X st t) (b : Ss1 X rest u) : Ss1 X (st :: rest) (fun Qy D => t Qy { D with nx := u Qy D }) := by
  refine ⟨fun A ip R Qy s₀ c fs K J gd lv s σ H D g k I q => seg_execs_cons ?_⟩
  refine a.go A ip R Qy s₀ c fs _ J gd lv s σ H _ g ⟨fun s₁ s' f hs => ?_, k.er⟩ I q
  match f, hs with
  | .next, ⟨σ', H', I', q'⟩ => exact b.go A ip R Qy s₁ c fs K J gd lv s' σ' H' D g k I' q'
  | .brk, hs => exact k.on s₁ s' .brk hs
  | .cont, hs => exact k.on s₁ s' .cont hs
  | .ret u, hs => exact k.on s₁ s' (.ret u) hs
theorem s1_yield {e : Expr} {te : TE} {yp pos : Pos} (he : PE X e te) (hco : X.env.scope.isCoroutine = false := by rfl) (hi : interactive X.env = false := by rfl) : S1 X (.Expr (.Yield (some e) yp) pos) (fun Qy _ σ H => te σ H Qy) := by
  refine ⟨fun A ip R Qy s₀ c fs K J gd lv s σ H D g k I q => seg_Expr_Yield g.sp g.g0 g.ug ?_ hco hi⟩
  rw [g.ar]
  exact wpAny_mono (he.run ip s σ H _ I q) (fun v s' ⟨x, H1, I1, rv, q1⟩ kap _ => ⟨x, ip, σ, H1, I1, rv, q1⟩) fun x s' hx => k.er s₀ x s' hx
theorem back1 {ip : List (Addr × Obj)} {A : Around} {R : GenEnd} {Qy : VK} {c : Code} {fs : List Frame} {K : Flow → Sem PySem.Fin} {J : Value → Sem PySem.Fin} {gd : Bool → Bool} {lv : List Value → List Value} {D : Ends} {s₀ s : Shared} {e : Value}
    (g : C1 X A c fs gd) (k : K1 X ip A R Qy c fs K J D) (h : cameBackBy (model X.prog X.w) X.A X.env X.xe e s) :
    Seg (model X.prog X.w) A R (Y1 X Qy) 1 s₀ c (((Sem.raise e : Sem Flow).onRaise (cameBack X.env)).wrap K J gd lv) fs s := by
  have z : ((Sem.raise e : Sem Flow).onRaise (cameBack X.env)).wrap K J gd lv = (cameBack X.env e).wrap (fun _ => J e) J gd lv := by
    rw [show (Sem.raise e : Sem Flow).onRaise (cameBack X.env) = (cameBack X.env e).bind fun _ => (Sem.raise e : Sem Flow) from rfl, Sem.bind_eq_wrap, Sem.wrap_wrap]
    rfl
  rw [z]
  exact seg_wrap (by rw [g.ar]; exact wpAny_mono h (fun _ s' hx => k.er s₀ e s' hx) fun x s' hx => k.er s₀ x s' hx)
/-- nothing is wished for -/
def noEnds : Ends := { nx := fun _ _ => False, rt := fun _ _ => False }
theorem noEnds.sp {ip : List (Addr × Obj)} {f : Flow} {s : Shared} (h : SP X ip noEnds f s) : False := by
  cases f with
  | next => obtain ⟨_, _, _, z⟩ := h; exact z
  | brk => obtain ⟨_, _, _, z⟩ := h; exact z
  | cont => obtain ⟨_, _, _, z⟩ := h; exact z
  | ret u => obtain ⟨_, _, _, _, _, z⟩ := h; exact z
/-- a for in the generator whose first turn yields -/
theorem s1_for {iter tg : Expr} {body : List Stmt} {wi : TI} {g : TG} {tb : T1} {pos : Pos} (hp : PassesOwn (model X.prog X.w) X.A X.env X.xe) (hc : X.calm = true) (hi : PI X tg iter wi) (hg : PG X tg g) (hb : Ss1 X body tb) (hs : ∀ x, foldedSetIterable iter X.env x = pure x := by intro _; rfl) :
    S1 X (.For tg iter body [] pos) (fun Qy D σ H => wi σ H fun J H1 => (J.stop 0 H1 ∧ D.nx σ H1) ∨ (J.go 0 H1 ∧ ∀ x H', J.yld 0 H1 x H' → g x σ H' fun σ2 H2 => tb Qy noEnds σ2 H2)) := by
  refine ⟨fun A ip R Qy s₀ c fs K J gd lv s σ H D G k I ht => seg_forG (E := X.xe) ?_ (fun x s' hx => k.er s₀ x s' hx) hs⟩
  rw [G.ar]
  refine thn (hi.run _ s σ H _ I ht) fun v s1 h1 => thn h1 fun itv s2 h2 p => ?_
  obtain ⟨it, fp, tn, Jt, H2, rfl, I2, T, st2, f2, q⟩ := h2
  have G' : ∀ kk, C1 X A (.forLoop tg (.ref it) body [] X.env) (.ret kk none (gd false) (lv []) c p [] :: fs) id := fun kk =>
    ⟨(over_loop rfl rfl).trans G.ar, by show (splitAtGen fs).map _ = none; rw [G.sp]; rfl, by show (gd false || fs.any Frame.guarded) = false; rw [G.g0, G.ug]; rfl, rfl⟩
  have bad : ∀ (kk : Result → Sem PySem.Fin), (∀ x, kk (.error x) = ((Sem.raise x : Sem Flow).onRaise (cameBack X.env)).wrap K J gd lv) → ∀ (s₁ : Shared) (x : Value) (s' : Shared), X.xe x s' → Seg (model X.prog X.w) A R (Y1 X Qy) 1 s₁ (.forLoop tg (.ref it) body [] X.env) (lotGoes X.env x) (.ret kk none (gd false) (lv []) c p [] :: fs) s' := fun kk hkk s₁ x s' hx => by
    refine seg_wrap ?_
    rw [(G' kk).ar]
    exact wpAny_bind (wpAny_mono (hp x s' hx) (fun _ s'' hcb => wpAny_theTreesLotGoes (seg_leaf (.error x) (by rw [hkk]; exact back1 G k hcb))) fun y s'' hcb => seg_leaf (.error y) (by rw [hkk]; exact back1 G k hcb))
  refine seg_forTurn (E := X.xe) ?_ (bad _ (fun _ => rfl) s₀)
  rw [(G' _).ar]
  rcases q with ⟨stop, qn⟩ | ⟨go, step⟩
  · refine thn (T.done X rfl rfl rfl hc 0 ip s2 σ H2 X.xe I2 f2 st2 stop) fun r1 s4 ⟨hr, I4⟩ => ?_
    subst hr
    exact seg_leaf (.ok .next) (k.on s₀ s4 .next ⟨σ, H2, I4, qn⟩)
  · refine thn (T.item X rfl rfl rfl hc 0 ip s2 σ H2 X.xe I2 f2 st2 go) fun r1 s4 ⟨u, hr, h4⟩ => ?_
    subst hr
    refine thn h4 fun _ s5 ⟨x, H5, I5, r5, y5, st5, fr5⟩ => ?_
    refine thn (hg.run _ s5 σ H5 x u _ I5 r5 (step x H5 y5)) fun _ s6 ⟨σ6, H6, I6, q6⟩ => ?_
    exact hb.go A ip R Qy s₀ _ _ _ _ id id s6 σ6 H6 noEnds (G' _) ⟨fun _ _ f hs => (noEnds.sp hs).elim, bad _ fun _ => rfl⟩ I6 q6
end

/-! ### the def -/
abbrev Sp1 := List V → Hp → VK → (Hp → Prop) → XK → Prop
section
variable (P : Program) (w : World) (k : Nat) (outer : List Env) (H : Hp) (s : Shared)
def End1 (a : Addr) (g : Nat) (Qn : Hp → Prop) (E : XK) : GenEnd := fun _ _ r s1 =>
  (r = .ok (.ret .none) ∧ ∃ H', s1.os = s.os ∧ AllBare s1.gens ∧ Un (frs outer) [] H H' s.heap s1.heap ∧ HOk P w H' s1.heap ∧ Qn H') ∨ ∃ e, r = .error e ∧ CX P w outer H s E e s1 ∧ s1.heap.IsGen a g
def Item1 (a : Addr) (g : Nat) (Qy : VK) : Protocol := fun _ _ v s1 _ =>
  s1.heap.IsGen a g ∧ s1.os = s.os ∧ AllBare s1.gens ∧ ∃ x H', Un (frs outer) [] H H' s.heap s1.heap ∧ HOk P w H' s1.heap ∧ RelV x v ∧ Qy x H'
/-- a generator that has not begun -/
def Made1 (Qy : VK) (Qn : Hp → Prop) (E : XK) (u : Value) (s' : Shared) : Prop := ∃ (a : Addr) (g : Nat) (c : Code), u = .ref a ∧ s'.gens[g]? = some (.fresh c) ∧ s'.heap.IsGen a g ∧ s'.os = s.os ∧ AllBare s'.gens ∧ s'.heap.NoLimit ∧
  (∀ b o, s.heap.get? b = some o → s'.heap.get? b = some o) ∧ ∀ (A : Around) (s2 : Shared), Room k A → A.frames = some outer → s2.heap = s'.heap → s2.os = s.os → AllBare s2.gens →
    Seg (model P w) A (End1 P w outer H s a g Qn E) (Item1 P w outer H s a g Qy) 1 s2 c ((model P w).den c) [] s2
end
structure Gen1 (P : Program) (w : World) (K : PySem.W.Frag) (mg : Str → Option Value) (base : Heap) (k : Nat) (f : Addr) (fd : FuncData) (ps : List Str) (sp : Sp1) : Prop where
  len : ∀ vs H Qy Qn E, sp vs H Qy Qn E → vs.length = ps.length
  run : ∀ (A : Around) (outer : List Env) (s : Shared) (H : Hp) (args : Args) (us : List Value) (vs : List V) (Qy : VK) (Qn : Hp → Prop) (E : XK), Room k A → Env0 P w K mg base A outer s H → BindsTo s fd args (ps.zip us) → Vals vs us → sp vs H Qy Qn E →
    codeAny (model P w) A (.call (.ref f) args) (fun r s' => match r with | .ok (.ret u) => Made1 P w k outer H s Qy Qn E u s' | _ => False) s
theorem gen1_of {P : Program} {w : World} {K : PySem.W.Frag} {mg : Str → Option Value} {base : Heap} {k : Nat} {f : Addr} {name qual : Str} {params : Arguments} {body : List Stmt} {scope : Scope} {dV kV doc pm cdv ct oc : Value} {an od : Option Addr}
    {osl : Array (Option Value)} {N ps : List Str} {sp : Sp1} (lk : K.lookup f = some ⟨oc, od, .func (PySem.W.fnOf name qual params body scope dV kV doc pm an cdv ct), osl⟩) (hcd : PySem.W.codeIn K cdv qual = true) (S : GScope N ps scope)
    (len : ∀ vs H Qy Qn E, sp vs H Qy Qn E → vs.length = ps.length)
    (hbody : ∀ (A : Around) (outer : List Env) (s : Shared) (H : Hp) (vs : List V) (Qy : VK) (Qn : Hp → Prop) (E : XK) (pn : List (Addr × Obj)), Room k (A.deeper (envOfC qual scope s.heap.objs.size f cdv)) → sp vs H Qy Qn E →
      ∃ t, Ss1 (gcxOf P w K mg base N qual scope f cdv A outer s H E pn) body t ∧ t Qy { nx := fun _ H' => Qn H', rt := fun v H' => v = .non ∧ Qn H' } (start N vs) H) :
    Gen1 P w K mg base (k + 1) f (PySem.W.fnOf name qual params body scope dV kV doc pm an cdv ct) ps sp := by
  refine ⟨len, fun A outer s H args us vs Qy Qn E hr e0 hb r hsp => ?_⟩
  have hl := len _ _ _ _ _ hsp
  have kin : K.In s.heap := e0.mod.kin.keeps fun b o e => (e0.bs b o e).1
  have lim : s.heap.NoLimit := e0.mod.nolimit.keeps fun b o e => (e0.bs b o e).1
  have kinds : ∀ y ∈ ps.zip us, scope.names.lookup y.1 = some .local ∨ (scope.names.lookup y.1 = some .cell ∧ ((cellsFrom (s.heap.objs.size + 1) scope.names []).lookup y.1).isSome = true) := fun ⟨n, v⟩ hy =>
    (S.par n (List.of_mem_zip hy).1).imp id fun q => ⟨q, PySem.W.cellsFrom_some _ _ _ (.inl q)⟩
  refine codeAny_call_generator hr.depth (kin _ _ lk) rfl S.co S.gen rfl (PySem.W.codeRec_of kin hcd) (hb _ _ _ _ (wpAny_newFunctionEnv_cells S.kind kinds fun env he s1 x => ?_))
  subst he
  have lim1 : s1.heap.NoLimit := lim.keeps x.toInCall.keep
  refine ⟨lim1, ?_⟩
  obtain ⟨h1, tk, es1, hk1⟩ := x.done
  have os1 : s1.os = s.os := by rw [es1]
  have gen1 : s1.gens = s.gens := by rw [es1]
  have sz1 : s.heap.objs.size < s1.heap.objs.size := x.toInCall.ns.lt
  have fin : ∀ (go : Obj) (nm qn : Value) (tk2 : Nat), go.cls = .type "generator" → go.data = .fields #[.int s1.gens.size 0, nm, qn] → go.slots = #[] → (∀ h : Heap, (h.push go).get? h.objs.size = some go) →
      Made1 P w (k + 1) outer H s Qy Qn E (.ref s1.heap.objs.size) { s1 with gens := s1.gens.push (.fresh (.func body (envOfC qual scope s.heap.objs.size f cdv))), toks := tk2, heap := s1.heap.push go } := by
    intro go nm qn tk2 c1 c2 c3 c4
    have isg : ∀ h : Heap, h.get? s1.heap.objs.size = some go → h.IsGen s1.heap.objs.size s1.gens.size := fun h e => ⟨go, nm, qn, e, c1, c2, c3⟩
    refine ⟨s1.heap.objs.size, s1.gens.size, _, rfl, Array.getElem?_push_size .., isg _ (c4 _), os1, AllBare.push (by rw [gen1]; exact e0.bare) rfl, lim1.keeps fun b o e => Heap.get?_push_of_some _ e, fun b o e => Heap.get?_push_of_some _ (x.toInCall.keep b o e), ?_⟩
    intro Aw s2 hrw hfr hh2 hos hba
    obtain ⟨t, ht, hq⟩ := hbody Aw outer s H vs Qy Qn E [(s1.heap.objs.size, go)] (hrw.deeper _) hsp
    have J : Inv (gcxOf P w K mg base N qual scope f cdv Aw outer s H E []) [] (start N vs) H s1 := inv_startG S hrw.hd ⟨hfr, e0.mod, e0.bs, e0.bsz, e0.funs, e0.frf, e0.hok, e0.bare⟩ hl r x
    have up : ∀ b o, s1.heap.get? b = some o → s2.heap.get? b = some o := fun b o e => by rw [hh2]; exact Heap.get?_push_of_some _ e
    have J2 : Inv (gcxOf P w K mg base N qual scope f cdv Aw outer s H E []) [] (start N vs) H s2 := J.call' (ch := []) (hos.trans os1.symm) (Un.kept up) (J.hok.kept up) hba fun b z => by simp at z
    have J3 : Inv (gcxOf P w K mg base N qual scope f cdv Aw outer s H E [(s1.heap.objs.size, go)]) [] (start N vs) H s2 := Inv.pinnedG J2 fun p hp => by
      rw [List.append_nil] at hp
      rw [List.mem_singleton.mp hp]
      exact ⟨by rw [hh2]; exact c4 _, J.hok.fresh (Nat.le_refl _), Nat.ne_of_gt sz1, J.nofs (Nat.le_refl _), fun v q => by rw [c2] at q; cases q⟩
    have gAt : ∀ {ip : List (Addr × Obj)} {s' : Shared} {σ' : L2.St} {H' : Hp}, Inv (gcxOf P w K mg base N qual scope f cdv Aw outer s H E [(s1.heap.objs.size, go)]) ip σ' H' s' → s'.heap.IsGen s1.heap.objs.size s1.gens.size := fun I =>
      isg _ (I.pin (s1.heap.objs.size, go) (List.mem_append_left _ (List.mem_singleton.mpr rfl))).1
    refine seg_func (seg_imp (R := fun _ _ r s' => (r = .ok (.ret .none) ∧ ∃ ip σ' H', Inv (gcxOf P w K mg base N qual scope f cdv Aw outer s H E [(s1.heap.objs.size, go)]) ip σ' H' s' ∧ Qn H') ∨ ∃ e, r = .error e ∧ CX P w outer H s E e s' ∧ ∀ p ∈ [(s1.heap.objs.size, go)], s'.heap.get? p.1 = some p.2)
      (Y := Y1 (gcxOf P w K mg base N qual scope f cdv Aw outer s H E [(s1.heap.objs.size, go)]) Qy) (fun n s₀ r s' hR => ?_) (fun n s₀ v s' kap kap' hkk hY => ?_) 1 ?_)
    · rcases hR with ⟨rfl, ip, σ', H', I, hQ⟩ | ⟨e, rfl, q1, q2⟩
      · exact .inl ⟨rfl, H', I.os, I.bare, I.base, I.hok, hQ⟩
      · exact .inr ⟨e, rfl, q1, isg _ (q2 _ (List.mem_singleton.mpr rfl))⟩
    · obtain ⟨y, ip, σ', H', I, rv, q⟩ := hY
      exact ⟨gAt I, I.os, I.bare, y, H', I.base, I.hok, rv, q⟩
    · refine ht.go Aw [] _ Qy s2 _ [] _ _ id id s2 (start N vs) H _ ⟨over_func, rfl, rfl, rfl⟩ ⟨fun s₀ s' fl hs => ?_, fun s₀ e s' hx => ?_⟩ J3 hq
      · match fl, hs with
        | .next, ⟨σ', H', I, q⟩ => exact seg_end (.ok (.ret .none)) (.inl ⟨rfl, [], σ', H', I, q⟩)
        | .brk, ⟨_, _, _, q⟩ => exact q.elim
        | .cont, ⟨_, _, _, q⟩ => exact q.elim
        | .ret u, ⟨v, σ', H', I, rv, ev, q⟩ =>
          subst ev
          obtain rfl : u = Value.none := rv
          exact seg_end (.ok (.ret .none)) (.inl ⟨rfl, [], σ', H', I, q⟩)
      · refine seg_wrap ?_
        rw [over_func]
        exact wpAny_mono (show wpAny (model P w) (Aw.deeper (envOfC qual scope s.heap.objs.size f cdv)) (leaving (envOfC qual scope s.heap.objs.size f cdv) e) (fun _ s'' => CX P w outer H s E e s'' ∧ ∀ p ∈ [(s1.heap.objs.size, go)], s''.heap.get? p.1 = some p.2) (fun _ _ => False) s' from hx)
          (fun _ s'' q => seg_end (.error e) (.inr ⟨e, rfl, q⟩)) fun _ s'' q => q.elim
  exact fin _ _ _ _ rfl rfl rfl fun h => Heap.get?_push_size _ rfl
/-- a generator def -/
theorem Fun.okY1 {Z : Cz} {x qual : Str} {st : Stmt} {f : Addr} {fd : FuncData} {N ps : List Str} {k : Nat} {sp : Sp1} (F : Fun Z.K x qual st f fd) (S : GScope N ps (defScope st)) (len : ∀ vs H Qy Qn E, sp vs H Qy Qn E → vs.length = ps.length)
    (hbody : ∀ (cdv : Value) (A : Around) (outer : List Env) (s : Shared) (H : Hp) (vs : List V) (Qy : VK) (Qn : Hp → Prop) (E : XK) (pn : List (Addr × Obj)), Room k (A.deeper (envOfC qual (defScope st) s.heap.objs.size f cdv)) → sp vs H Qy Qn E →
      ∃ t, Ss1 (gcxOf Z.P Z.w Z.K Z.mg Z.base N qual (defScope st) f cdv A outer s H E pn) (defBody st) t ∧ t Qy { nx := fun _ H' => Qn H', rt := fun v H' => v = .non ∧ Qn H' } (start N vs) H) :
    Gen1 Z.P Z.w Z.K Z.mg Z.base (k + 1) f fd ps sp := by
  obtain ⟨oc, od, kV, doc, pm, an, cdv, ct, osl, rfl, lk, hcd⟩ := F.ex
  exact gen1_of lk hcd S len fun A outer s H vs Qy Qn E pn hr hsp => hbody cdv A outer s H vs Qy Qn E pn hr hsp

/-! ### who asks -/
abbrev TGe1 := L2.St → Hp → VK → (Hp → Prop) → Prop
structure PGe1 (X : Cx) (k : Nat) (e : Expr) (t : TGe1) (E : L2.St → XK) : Prop where
  run : ∀ (pins : List (Addr × Obj)) (s : Shared) (σ : L2.St) (H : Hp) (Qy : VK) (Qn : Hp → Prop), Inv X pins σ H s → t σ H Qy Qn → wpAny (model X.prog X.w) X.A (eval e X.env) (fun u s' => ∃ H1 sc, Inv X pins σ H1 sc ∧ Made1 X.prog X.w k X.stack H1 sc Qy Qn (E σ) u s') X.xe s
section
variable {X : Cx} {k : Nat} {f : Addr} {fd : FuncData} {ps : List Str} {sp : Sp1} {dvs : List V} {ds : List Value} {x : Str} {p pos : Pos}
theorem pge1_call {E : L2.St → XK} {e : Expr} {es : List Expr} {t : TA} (F : Gen1 X.prog X.w X.K X.mg X.base k f fd ps sp) (hr : Room k X.A) (hg : Gl X x) (hm : X.mg x = some (.ref f)) (hk : PySem.W.keepIn X.K (.ref f) = true) (hb : Binds X.K fd ps ds) (hd : Vals dvs ds)
    (ha : PA X (e :: es) t) (hdb : (x == ("__debug__" : Str)) = false := by decide) (he : starEach (e :: es) X.env = (false, eval e X.env) :: starEach es X.env := by rfl) (hpl : (backTo pos (starEach es X.env)).any (·.1) = false := by rfl) :
    PGe1 X k (.Call (.Name x p) (e :: es) [] pos) (fun σ H Qy Qn => t σ H fun vs H1 => sp (vs ++ dvs) H1 Qy Qn (E σ)) E := by
  refine ⟨fun pins s σ H Qy Qn I h => wpAny_Call_Name_kw (ld_glob I hg hm ?_ hdb)⟩
  refine PySem.W.callWith_K (h₀ := X.base) I.ok.mod.kin hk (thn (ha.run pos pins s σ H _ I h) fun us s1 ⟨vs, H1, I1, r, q⟩ => ⟨I1.kIn, ?_⟩) he hpl
  have len2 : (us ++ ds).length = ps.length := by rw [← (r.append hd).length]; exact F.len _ _ _ _ _ q
  refine wpAny_call (codeAny_mono (F.run X.A X.stack s1 H1 ⟨us, []⟩ (us ++ ds) (vs ++ dvs) Qy Qn (E σ) hr I1.env0 (hb s1 us I1.kIn len2) (r.append hd) q) fun r2 s' hq => ?_)
  match r2, hq with
  | .ok (.ret u), hq => exact ⟨H1, s1, I1, hq⟩
/-- for n in g(..): body, where the body never comes to a second turn -/
theorem ps_for1 {E : L2.St → XK} {e tg : Expr} {body : List Stmt} {t : TGe1} {g : TG} {tb : TS} (he : PGe1 X k e t E) (hp : PassesOwn (model X.prog X.w) X.A X.env X.xe) (hx : ∀ σ, PassesAt (L2.CX X.prog X.w) X σ (E σ)) (hns : ∀ σ, NoStop X.K (E σ)) (hr : Room (k + 3) X.A) (hg : PG X tg g) (hb : PSs X body tb)
    (hs : ∀ x, foldedSetIterable e X.env x = pure x := by intro _; rfl) (hlo : ∀ a v, letOwnedTupleGo tg a v = pure () := by intro _ _; rfl) :
    PS X (.For tg e body [] pos) (fun D σ H => t σ H (fun x H1 => g x σ H1 fun σ2 H2 => tb { D with nx := fun _ _ => False, ct := fun _ _ => False, bk := D.nx } σ2 H2) (fun H1 => D.nx σ H1)) := by
  refine ⟨fun pins s σ H D I h => wpAny_For (thn (he.run pins s σ H _ _ I h) fun u s1 ⟨H1, sc, I1, a, gn, c, eu, hgs, hig, hos, hba, hlim, hkeep, wake⟩ => ?_) hs⟩
  subst eu
  refine wpAny_pyIter_gen (s := s1) hig ?_
  refine codeAny_forLoop_any (fun n s' => n = 0 ∧ s' = s1) ?_ 0 ⟨rfl, rfl⟩
  rintro n s' ⟨rfl, rfl⟩
  have inv : ∀ {H2 : Hp} {s2 : Shared}, s2.os = sc.os → AllBare s2.gens → Un (frs X.stack) [] H1 H2 sc.heap s2.heap → HOk X.prog X.w H2 s2.heap → Inv X pins σ H2 s2 := fun q1 q2 q3 q4 => I1.call' (ch := []) q1 q3 q4 q2 fun b z => by simp at z
  refine wpAny_passesOwn hp (next_genG (A := X.A) (n := 1) (F := fun _ _ s₂ => ∃ H', s₂.os = sc.os ∧ AllBare s₂.gens ∧ Un (frs X.stack) [] H1 H' sc.heap s₂.heap ∧ HOk X.prog X.w H' s₂.heap ∧ D.nx σ H') (Er := fun e s₂ => CX X.prog X.w X.stack H1 sc (E σ) e s₂ ∧ s₂.heap.IsGen a gn)
    (Y := Item1 X.prog X.w X.stack H1 sc a gn fun x H1 => g x σ H1 fun σ2 H2 => tb { D with nx := fun _ _ => False, ct := fun _ _ => False, bk := D.nx } σ2 H2) hr.hd hlim hr.depth hig hgs ⟨rfl, ?_⟩ (fun v s₂ gs' hbr hv => ?_) (fun s₂ hq h' hk => ?_) fun e s₂ ⟨hc, hg2⟩ => ?_)
  · refine seg_imp (R := End1 X.prog X.w X.stack H1 sc a gn (fun H1 => D.nx σ H1) (E σ)) (Y := Item1 X.prog X.w X.stack H1 sc a gn fun x H1 => g x σ H1 fun σ2 H2 => tb { D with nx := fun _ _ => False, ct := fun _ _ => False, bk := D.nx } σ2 H2)
      (fun n s₀ r s₂ hR => ?_) (fun n s₀ v s₂ kap kap' hkk hY => hY) 1 (wake X.A.in1 (s'.setGen gn .running) ⟨hr.hd, ?_, ?_⟩ I1.ok.frames rfl hos (allBare_setGen hba rfl))
    · rcases hR with ⟨rfl, z⟩ | ⟨e, rfl, z⟩
      · exact .inl ⟨.inl rfl, z⟩
      · exact .inr ⟨e, rfl, z⟩
    · have := hr.dp
      show X.A.depth + 3 * k + 5 < _
      omega
    · have := hr.un
      show X.A.units + 1 + 16 * k + 200 < _
      omega
  · obtain ⟨g1, g2, g3, y, H2, g4, g5, rv, q⟩ := hv
    have J := inv (s2 := s₂.setGen gn gs') g2 (allBare_setGen g3 hbr) g4 g5
    show wpAny _ _ (letOwnedTupleGo tg (.ref a) v) _ _ _
    rw [hlo]
    refine wpAny_pure (wpAny_passesOwn hp (thn (hg.run pins _ σ H2 y v _ J rv q) fun _ s6 ⟨σ6, H6, I6, q6⟩ => wpAny_passesOwn hp (thn (hb.run pins s6 σ6 H6 _ I6 q6) fun fl s7 q7 => ?_)))
    match fl, q7 with
    | .next, ⟨_, _, _, z⟩ => exact z.elim
    | .cont, ⟨_, _, _, z⟩ => exact z.elim
    | .brk, ⟨σ7, H7, I7, q7⟩ => exact ⟨σ7, H7, I7, q7⟩
    | .ret v, ⟨x7, σ7, H7, I7, r7, q7⟩ => exact ⟨x7, σ7, H7, I7, r7, q7⟩
  · obtain ⟨H2, g2, g3, g4, g5, q⟩ := hq
    exact wpAny_execs_nil ⟨σ, H2, inv (s2 := { s₂.setGen gn .finished with heap := h' }) g2 (allBare_setGen g3 rfl) (g4.trans (Un.kept hk)) (g5.kept hk), q⟩
  · have kin : X.K.In s₂.heap := by
      obtain ⟨a, B, H', cls, d, _, fl, _, ub, _⟩ := id hc
      refine I1.ok.mod.kin.keeps fun b o eb => fl.1 b o (ub.keep b o (I1.bs b o eb).1 (I1.bs b o eb).2 fun hm => ?_)
      rcases List.mem_cons.mp (I1.stkSub b hm) with z | z
      · exact absurd (Nat.lt_of_lt_of_le (Heap.lt_size eb) (Nat.le_trans I1.ok.bsz (z ▸ I1.ok.above))) (Nat.lt_irrefl _)
      · exact I1.ok.nofr eb z
    refine ⟨hg2, notStop_of (hns σ) kin hc, hx σ pins H1 sc e _ I1 ?_⟩
    obtain ⟨a, B, H', cls, d, z1, fl, z2, ub, z3, z4, z5, z6⟩ := hc
    exact ⟨a, B, H', cls, d, z1, fl, z2, ub, z3, z4, allBare_setGen z5 rfl, z6⟩
end
/-- what a try asks of an error that no loop takes for its end -/
def wNS (K : PySem.W.Frag) (W : WX) (σ : L2.St) : XK := fun cls d H => PySem.W.subIn K cls (.type "StopIteration") = some false ∧ W cls d σ H
theorem wNS.ns {K : PySem.W.Frag} {W : WX} (σ : L2.St) : NoStop K (wNS K W σ) := fun _ _ _ h => h.1
theorem passC {X : Cx} {W : WX} (tk : L2.Takes X W) (σ : L2.St) : PassesAt (L2.CX X.prog X.w) X σ (wNS X.K W σ) := fun _ _ _ e s' I c => tk e s' (L2.XE.of_call (E := wNS X.K W σ) I (fun _ _ _ h => h.2) c)
/-- what takes all takes those without a context -/
theorem takesN_of {X : Cx} {W : WX} (tk : L2.Takes X W) : L2N.Takes X W := fun u s' ⟨a, B, sI, pins, σ, H, cls, d, e, I, nb, up, sky, na, os, ag, w⟩ => tk u s' ⟨a, B, sI, pins, σ, H, cls, d, e, I, nb, up, (by
  rcases sky with ⟨k1, k2, k3, oe, vs, he, hz, hd, h1⟩ | ⟨k1, k2, k3, oe, vs, T, oT, ts, he, hz, r⟩ | ⟨k1, k2, k3, oe, vs, T, oT, ts, he, hz, r⟩
  · exact .inl ⟨k1, k2, k3, oe, vs, he, hz.zc, hd, h1⟩
  · exact .inr (.inl ⟨k1, k2, k3, oe, vs, T, oT, ts, he, hz.zc, r⟩)
  · exact .inr (.inr ⟨k1, k2, k3, oe, vs, T, oT, ts, he, hz.zc, r⟩)), na, os, ag, w⟩
/-- a generator def that is woken once -/
def CalG1 (Z : Cz) (k : Nat) (x : Str) (ps : List Str) (dvs : List V) (sp : Sp1) : Prop := ∃ f fd ds, Gen1 Z.P Z.w Z.K Z.mg Z.base k f fd ps sp ∧ Z.mg x = some (.ref f) ∧ PySem.W.keepIn Z.K (.ref f) = true ∧ Binds Z.K fd ps ds ∧ Vals dvs ds
theorem pge1_cal {Z : Cz} {X : Cx} {k : Nat} {x : Str} {ps : List Str} {dvs : List V} {sp : Sp1} {E : L2.St → XK} {e : Expr} {es : List Expr} {t : TA} {p pos : Pos} (c : CalG1 Z k x ps dvs sp) (hr : Room k X.A) (hg : Gl X x) (ha : PA X (e :: es) t) (z : InZ Z X := by exact ⟨rfl, rfl, rfl, rfl, rfl⟩)
    (hdb : (x == ("__debug__" : Str)) = false := by decide) (he : starEach (e :: es) X.env = (false, eval e X.env) :: starEach es X.env := by rfl) (hpl : (backTo pos (starEach es X.env)).any (·.1) = false := by rfl) :
    PGe1 X k (.Call (.Name x p) (e :: es) [] pos) (fun σ H Qy Qn => t σ H fun vs H1 => sp (vs ++ dvs) H1 Qy Qn (E σ)) E := by
  obtain ⟨f, fd, ds, G, h1, h2, h3, h4⟩ := c
  obtain ⟨zP, zw, zK, zm, zb⟩ := z
  exact pge1_call (by rw [zP, zw, zK, zm, zb]; exact G) hr hg (by rw [zm]; exact h1) (by rw [zK]; exact h2) (by rw [zK]; exact h3) h4 ha hdb he hpl
end Ps

set_option pp.maxSteps 900
/-! The floor of prices, and the worst kinds; an opponent that refuses its prices. -/
namespace Ps
open PySem PySem.Spec PyProof.Rows PySem.W L2 LamX

/-- price, least price, kind -/
abbrev W3 := Int × Int × Str
def w3 (ow ge : Str → Int) (s w : Str) : W3 := (bst ow ge s w, bst ow ge "each" w, w)
def wstep (ow ge : Str → Int) (s : Str) (a : Option W3) (w : Str) : Option W3 := match a with
  | none => some (w3 ow ge s w)
  | some x => if x.1 * bst ow ge "each" w < bst ow ge s w * x.2.1 then some (w3 ow ge s w) else some x
def worstW (ow ge : Str → Int) (s : Str) (ws : List Str) : Option W3 := ws.foldl (wstep ow ge s) none
def isW3 (ow ge : Str → Int) (s : Str) (ws : List Str) (a : Option W3) : Prop := ∀ x, a = some x → ∃ w ∈ ws, x = w3 ow ge s w
section
variable {ow ge : Str → Int} {s : Str} {ws : List Str}
theorem wstep_is {a : Option W3} {w : Str} (h : isW3 ow ge s ws a) (hw : w ∈ ws) : isW3 ow ge s ws (wstep ow ge s a w) := by
  intro x hx
  cases a with
  | none => exact ⟨w, hw, (Option.some.inj hx).symm⟩
  | some y =>
    unfold wstep at hx
    by_cases z : y.1 * bst ow ge "each" w < bst ow ge s w * y.2.1
    · simp only [if_pos z] at hx
      exact ⟨w, hw, (Option.some.inj hx).symm⟩
    · simp only [if_neg z] at hx
      exact h x hx
theorem wfold_is : ∀ (l : List Str) (a : Option W3), (∀ w ∈ l, w ∈ ws) → isW3 ow ge s ws a → isW3 ow ge s ws (l.foldl (wstep ow ge s) a)
  | [], _, _, h => h
  | w :: r, a, hl, h => wfold_is r _ (fun z hz => hl z (List.mem_cons_of_mem _ hz)) (wstep_is h (hl w (List.mem_cons_self ..)))
theorem wstep_some (a : Option W3) (w : Str) : ∃ x, wstep ow ge s a w = some x := by
  cases a with
  | none => exact ⟨_, rfl⟩
  | some y =>
    unfold wstep
    by_cases z : y.1 * bst ow ge "each" w < bst ow ge s w * y.2.1
    · exact ⟨_, if_pos z⟩
    · exact ⟨_, if_neg z⟩
theorem wfold_some : ∀ (l : List Str) (a : Option W3), (l ≠ [] ∨ ∃ x, a = some x) → ∃ x, l.foldl (wstep ow ge s) a = some x
  | [], a, h => h.elim (fun z => absurd rfl z) id
  | w :: r, a, _ => wfold_some r _ (.inr (wstep_some a w))
theorem worst_ok (hne : ws ≠ []) : ∃ w ∈ ws, worstW ow ge s ws = some (w3 ow ge s w) := by
  obtain ⟨x, hx⟩ := wfold_some (ow := ow) (ge := ge) (s := s) ws none (.inl hne)
  obtain ⟨w, hw, e⟩ := wfold_is ws none (fun _ h => h) (fun x h => by cases h) x hx
  exact ⟨w, hw, by rw [← e]; exact hx⟩
end
theorem by6 {p b : Int} (hb : 0 < b) : gBy (low p 6) (low b 6) = low p b := by
  refine (gMin_eq ?_ (Lw.of (by omega))).mp ((Frc.eq ((Frc.low (t := p) (u := 6) (by decide)).by_ (Frc.low (t := b) (u := 6) (by decide)) hb) (Frc.low (t := p) (u := b) hb)).mpr (by grind))
  have h1 := low6_pos hb
  have h2 := (Frc.low (t := p) (u := 6) (by decide)).p
  unfold gBy
  refine Lw.of ?_
  have := Int.mul_pos h2 h1
  omega
theorem szW {p b : Int} (hp : 0 < p ∧ p ≤ 1000) (hb : 0 < b ∧ b ≤ 1000) : Sz 4000 (low p b) := Sz.of_low (by omega) (lt_up (m := 20) (by omega) (by decide)) (lt_up (m := 20) (by omega) (by decide))
/-- the worst at v -/
def WAt (C : Addr) (H : Hp) (v : V) : Option W3 → Prop
  | none => v = .non
  | some x => ∃ t a, v = .ref t ∧ H t = some (.tup [a, .str x.2.2]) ∧ Sh C H a (low x.1 x.2.1)
theorem WAt.mono {C : Addr} {H H' : Hp} {v : V} {o : Option W3} (e : Same H H') (h : WAt C H v o) : WAt C H' v o := by
  cases o with
  | none => exact h
  | some x => obtain ⟨t, a, h1, h2, h3⟩ := h; exact ⟨t, a, h1, e _ _ h2, h3.mono e⟩
def spWorst (C CP : Addr) (ow ge : Str → Int) (gm : Int) : Sp := fun vs H Q _ => ∃ pz s P, vs = [pz, .str s] ∧ PrAtS C CP H pz P ∧ PrG' P ∧ SixP P ow ge gm ∧ (s = "own" ∨ s = "general") ∧ ∀ t a x H', Same H H' → worstW ow ge s (P.ks.map (·.1)) = some x → H' t = some (.tup [a, .str x.2.2]) → Sh C H' a (low x.1 x.2.1) → Q (.ref t) H'
section
variable {Z : Cz} {f C CB CP CA PA fA : Addr} {fd : FuncData} {ow ge : Str → Int} {gm : Int}
theorem ok_worst (F : Fun Z.K "worst_for" "worst_for" s_worst_for f fd) (T : ShT Z C) (c_words : CalM Z CX0 1 CP "words" ["self"] [] (spPrWords C CP)) (c_own : CalM Z CX0 6 CP "own" ["self", "word"] [] (spPrOf0 C CP qOwn)) (c_general : CalM Z CX0 5 CP "general" ["self", "word"] [] (spPrOf0 C CP fun _ q => q.2))
    (c_best : CalM Z CX0 7 CP "best" ["self", "word"] [] (spPrOf0 C CP qBest)) (c_by : CalM Z CX0 5 C "by" ["self", "other"] [] (spBy C)) (cgt : CalS Z CX0 6 C "__gt__" ["self", "other"] (spOrd C fun i => decide (0 < i))) :
    Z.ok CX0 8 f fd ["prices", "plan"] (spWorst C CP ow ge gm) := by
  refine F.ok sc_worst_for (fun vs H Q E h => ?_) (fun cdv A outer s H vs Q E hr h => ?_)
  · obtain ⟨pz, s, P, rfl, _⟩ := h
    rfl
  · obtain ⟨pz, s, P, rfl, hP, g, S6, hs, k⟩ := h
    refine ⟨_, (pss_cons (ps_set (i := 2) sc_worst_for.nd rfl (Or.inl rfl) pe_non)
      (pss_cons (ps_for PassesOwn.never rfl (pi_list (pe_calM0 c_words (hr.mono (by decide)) pass0 (pv 0))) (pg_name (i := 3) sc_worst_for.nd rfl (Or.inl rfl))
      (pss_cons (ps_set (i := 4) sc_worst_for.nd rfl (Or.inl rfl) (pe_ifExp (pt_cmpR op_eq (pv 1) pe_str (nomark _)) (pe_calM c_own (hr.mono (by decide)) pass0 (pv 0) (pa_cons (pv 3) pa_nil)) (pe_calM c_general (hr.mono (by decide)) pass0 (pv 0) (pa_cons (pv 3) pa_nil))))
        (pss_cons (ps_set (i := 5) sc_worst_for.nd rfl (Or.inl rfl) (pe_calM c_by (hr.mono (by decide)) pass0 (pv 4) (pa_cons (pe_calM c_best (hr.mono (by decide)) pass0 (pv 0) (pa_cons (pv 3) pa_nil)) pa_nil)))
        (pss_one (ps_if (PW.pt (pw_or (pt_cmpR op_isN (pv 2) pe_non (nomark _)) (pw_or1 (pt_cmpR (op_cmp (op := .Gt) cgt (hr.mono (by decide)) pass0) (pv 5) (pe_ix ix_tup (pv 2) pe_int (fun _ _ => rfl)) (nomark _)))))
        (pss_one (ps_set (i := 2) sc_worst_for.nd rfl (Or.inl rfl) (pe_tup (pa_cons (pv 5) (pa_cons (pv 3) pa_nil)))))
        pss_nil)))))
      (pss_one (ps_ret (pv 2))))), ?_⟩
    have hws : ∀ w ∈ P.ks.map (·.1), w ∈ P.ks.map (·.1) := fun _ h => h
    refine ⟨_, rfl, pr_meth hP (by decide) (by decide) (by decide) ⟨pz, P, rfl, hP, fun l H1 e1 hn hl => ⟨l, rfl, ⟨_, SqL.of hl⟩, ?_⟩⟩⟩
    refine for_list (K := Z.K) (a := l) (xs := (P.ks.map (·.1)).map V.str) (fun j σ H' => Same H1 H' ∧ ∃ v o3 o4 o5, WAt C H' v (((P.ks.map (·.1)).take j).foldl (wstep ow ge s) none) ∧ σ = [some pz, some (.str s), some v, o3, o4, o5])
      ⟨.refl _, .non, _, _, _, rfl, rfl⟩ (fun j σ H' _ ⟨e, _⟩ => SqL.of (e _ _ hl)) ?_ ?_
    · rintro j x σ H2 hx ⟨e2, v, o3, o4, o5, hv, rfl⟩
      rw [List.getElem?_map] at hx
      obtain ⟨w, hw, rfl⟩ := Option.map_eq_some_iff.mp hx
      have hwm : w ∈ P.ks.map (·.1) := List.mem_of_getElem? hw
      have hin := kind_in g.ks hwm
      have et : (P.ks.map (·.1)).take (j + 1) = (P.ks.map (·.1)).take j ++ [w] := by rw [List.take_succ, hw]; rfl
      have ef : ((P.ks.map (·.1)).take (j + 1)).foldl (wstep ow ge s) none = wstep ow ge s (((P.ks.map (·.1)).take j).foldl (wstep ow ge s) none) w := by rw [et, List.foldl_append]; rfl
      have hi : isW3 ow ge s (P.ks.map (·.1)) (((P.ks.map (·.1)).take j).foldl (wstep ow ge s) none) := wfold_is _ _ (fun w hw => List.mem_of_mem_take hw) (fun x h => by cases h)
      rw [ef]
      generalize ((P.ks.map (·.1)).take j).foldl (wstep ow ge s) none = acc at hv hi ⊢
      have e12 := e1.trans e2
      have hP2 := hP.mono e12
      have bS := bst_b S6 s hwm
      have bE := bst_b S6 "each" hwm
      have price : ∀ {R : V → Hp → Prop}, (∀ vp H3, Same H2 H3 → Sh C H3 vp (low (bst ow ge s w) 6) → R vp H3) → tIf (tTest (tOp rEq (tVar 1) (tC (V.str "own")))) (tMeth CP "own" (spPrOf0 C CP qOwn) [] E0 (tVar 0) (tCons (tVar 3) tNil)) (tMeth CP "general" (spPrOf0 C CP fun x q => q.snd) [] E0 (tVar 0) (tCons (tVar 3) tNil))
          [some pz, some (.str s), some v, some (.str w), o4, o5] H2 R := fun {R} kR => by
        rcases hs with rfl | rfl
        · refine ⟨_, rfl, rfl, _, rfl, iteT ⟨_, rfl, pr_meth hP2 (by decide) (by decide) (by decide) ⟨_, rfl, pz, w, lkP P w, P, rfl, hP2, g, hin, fun vp H3 e3 hp => kR vp H3 e3 ?_⟩⟩⟩
          rw [S6.o w hwm] at hp
          exact hp
        · refine ⟨_, rfl, rfl, _, rfl, iteF ⟨_, rfl, pr_meth hP2 (by decide) (by decide) (by decide) ⟨_, rfl, pz, w, lkP P w, P, rfl, hP2, g, hin, fun vp H3 e3 hp => kR vp H3 e3 ?_⟩⟩⟩
          rw [show (fun (x : PrS) (q : Q2) => q.snd) P (lkP P w) = (lkP P w).2 from rfl, S6.g w hwm] at hp
          exact hp
      refine price fun vp H3 e3 hp => ?_
      refine ⟨_, rfl, sh_meth hp (by decide) (by decide) ⟨_, rfl, pr_meth (hP2.mono e3) (by decide) (by decide) (by decide) ⟨_, rfl, pz, w, lkP P w, P, rfl, hP2.mono e3, g, hin, fun vb H4 e4 hb => ?_⟩⟩⟩
      rw [qBest_low S6 hwm, show (if ow w ≤ ge w then ow w else ge w) = bst ow ge "each" w from rfl] at hb
      refine ⟨vp, vb, _, _, rfl, hp.mono e4, .inl hb, sz6 (k := 20) (by omega) (by omega) (by decide) (by decide), sz6 (k := 20) (by omega) (by omega) (by decide) (by decide), (by have := low6_pos bE.1; omega), fun vs H5 e5 hsh => ?_⟩
      rw [by6 bE.1] at hsh
      have e25 := e3.trans (e4.trans e5)
      have hv5 := hv.mono e25
      have put : ∀ {H6 : Hp}, Same H5 H6 → ∀ t, H6 t = none → Same H1 (upd H6 t (.tup [vs, .str w])) ∧ WAt C (upd H6 t (.tup [vs, .str w])) (.ref t) (some (w3 ow ge s w)) := fun {H6} e6 t ht =>
        ⟨(e2.trans e25).trans (e6.trans (Same.upd ht)), t, vs, rfl, upd_same, hsh.mono (e6.trans (Same.upd ht))⟩
      cases acc with
      | none =>
        obtain rfl : v = V.non := hv5
        refine ⟨_, rfl, rfl, _, rfl, iteT (iteT ⟨_, rfl, _, rfl, (by show 2 ≤ sizeLine; decide), fun t ht => ?_⟩)⟩
        obtain ⟨p1, p2⟩ := put (.refl _) t ht
        exact ⟨p1, _, _, _, _, p2, rfl⟩
      | some y =>
        obtain ⟨t0, a0, rfl, ht0, ha0⟩ := hv5
        obtain ⟨w0, hw0, rfl⟩ := hi y rfl
        have bS0 := bst_b S6 s hw0
        have bE0 := bst_b S6 "each" hw0
        refine ⟨_, rfl, rfl, _, rfl, iteF ⟨_, rfl, _, rfl, t0, _, _, _, rfl, rfl, SqT.of ht0, rfl, ?_⟩⟩
        refine ⟨hsh.ins, Nb.nf T (.inl ha0), vs, a0, low (bst ow ge s w) (bst ow ge "each" w), low (bst ow ge s w0) (bst ow ge "each" w0), rfl, hsh, .inl ha0, szW bS bE, szW bS0 bE0, fun H6 e6 => ⟨_, rfl, ?_⟩⟩
        have hgt := (Frc.low (t := bst ow ge s w) bE.1).gt (Frc.low (t := bst ow ge s w0) bE0.1)
        have ew : wstep ow ge s (some (w3 ow ge s w0)) w = if bst ow ge s w0 * bst ow ge "each" w < bst ow ge s w * bst ow ge "each" w0 then some (w3 ow ge s w) else some (w3 ow ge s w0) := rfl
        rw [ew]
        show if decide (0 < gMin (low (bst ow ge s w) (bst ow ge "each" w)) (low (bst ow ge s w0) (bst ow ge "each" w0))) = true then _ else _
        by_cases z : bst ow ge s w0 * bst ow ge "each" w < bst ow ge s w * bst ow ge "each" w0
        · rw [decide_eq_true (hgt.mpr z), if_pos z]
          refine iteT ⟨_, rfl, _, rfl, (by show 2 ≤ sizeLine; decide), fun t ht => ?_⟩
          obtain ⟨p1, p2⟩ := put e6 t ht
          exact ⟨p1, _, _, _, _, p2, rfl⟩
        · rw [decide_eq_false fun h => z (hgt.mp h), if_neg z]
          exact iteF ⟨(e2.trans e25).trans e6, _, _, _, _, ⟨t0, a0, rfl, e6 _ _ ht0, ha0.mono e6⟩, rfl⟩
    · rintro σ H2 ⟨e2, v, o3, o4, o5, hv, rfl⟩
      have hne : P.ks.map (·.1) ≠ [] := fun z => by
        have := g.ks.l1
        rw [← List.length_map (f := (·.1)), z] at this
        exact absurd this (by decide)
      obtain ⟨w, hw, hx⟩ := worst_ok (ow := ow) (ge := ge) (s := s) hne
      rw [List.length_map, List.length_map, show P.ks.length = (P.ks.map (·.1)).length by rw [List.length_map], List.take_length, show List.foldl (wstep ow ge s) none (P.ks.map (·.1)) = some (w3 ow ge s w) from hx] at hv
      obtain ⟨t, a, rfl, ht, ha⟩ := hv
      exact ⟨_, rfl, k t a _ H2 (e1.trans e2) hx ht ha⟩
/-- the lesser of two fractions -/
def lessQ (x y : W3) : Int × Int := if x.1 * y.2.1 ≤ y.1 * x.2.1 then low x.1 x.2.1 else low y.1 y.2.1
def spFloor (K : Frag) (C CP CA : Addr) (ow ge : Str → Int) (gm : Int) : Sp := fun vs H Q E => ∃ v, vs = [v] ∧ ((NoIn K CP H v ∧ Rz CA "value" v H E) ∨ ∃ P, PrAtS C CP H v P ∧ PrG' P ∧ SixP P ow ge gm ∧
  ∀ t a x y H', Same H H' → worstW ow ge "own" (P.ks.map (·.1)) = some x → worstW ow ge "general" (P.ks.map (·.1)) = some y → H' t = some (.tup [a, .str x.2.2, .str y.2.2]) → Sh C H' a (lessQ x y) → Q (.ref t) H')
theorem ok_floorOf (F : Fun Z.K "floor_of" "floor_of" s_floor_of f fd) (T : ShT Z C) (c_check_prices : Cal Z (CXN Z) 2 "check_prices" ["prices"] [] (spCkPX Z.K C CP CA)) (c_worst_for : Cal Z CX0 8 "worst_for" ["prices", "plan"] [] (spWorst C CP ow ge gm))
    (cle : CalS Z CX0 6 C "__le__" ["self", "other"] (spOrd C fun i => decide (i ≤ 0))) : Z.ok (CXN Z) 9 f fd ["prices"] (spFloor Z.K C CP CA ow ge gm) := by
  refine Fun.okN F sc_floor_of (fun vs H Q E h => ?_) (fun cdv A outer s H vs Q E hr h => ?_)
  · obtain ⟨v, rfl, _⟩ := h
    rfl
  · obtain ⟨v, rfl, h⟩ := h
    refine ⟨_, (pss_cons (ps_expr (pe_cal c_check_prices (hr.mono (by decide)) (by rfl) (passN (L2N.takes_of rfl rfl rfl rfl)) (pa_cons (pv 0) pa_nil)))
      (pss_cons (ps_set (i := 1) sc_floor_of.nd rfl (Or.inl rfl) (pe_cal c_worst_for (hr.mono (by decide)) (by rfl) pass0 (pa_cons (pv 0) (pa_cons pe_str pa_nil))))
      (pss_cons (ps_set (i := 2) sc_floor_of.nd rfl (Or.inl rfl) (pe_cal c_worst_for (hr.mono (by decide)) (by rfl) pass0 (pa_cons (pv 0) (pa_cons pe_str pa_nil))))
      (pss_one (ps_ret (pe_tup (pa_cons (pe_ifExp (pt_cmpR (op_cmp (op := .LtE) cle (hr.mono (by decide)) pass0) (pe_ix ix_tup (pv 1) pe_int (fun _ _ => rfl)) (pe_ix ix_tup (pv 2) pe_int (fun _ _ => rfl)) (nomark _)) (pe_ix ix_tup (pv 1) pe_int (fun _ _ => rfl)) (pe_ix ix_tup (pv 2) pe_int (fun _ _ => rfl))) (pa_cons (pe_ix ix_tup (pv 1) pe_int (fun _ _ => rfl)) (pa_cons (pe_ix ix_tup (pv 2) pe_int (fun _ _ => rfl)) pa_nil))))))))), ?_⟩
    rcases h with ⟨hn, k⟩ | ⟨P, hP, g, S6, k⟩
    · exact ⟨_, rfl, v, rfl, .inr ⟨hn, k⟩⟩
    · refine ⟨_, rfl, v, rfl, .inl ⟨P, hP, ?_⟩⟩
      have hne : P.ks.map (·.1) ≠ [] := fun z => by
        have := g.ks.l1
        rw [← List.length_map (f := (·.1)), z] at this
        exact absurd this (by decide)
      refine ⟨_, rfl, v, "own", P, rfl, hP, g, S6, .inl rfl, fun t1 a1 x H1 e1 hx ht1 ha1 => ?_⟩
      refine ⟨_, rfl, v, "general", P, rfl, hP.mono e1, g, S6, .inr rfl, fun t2 a2 y H2 e2 hy ht2 ha2 => ?_⟩
      have hx0 := hx
      have hy0 := hy
      obtain ⟨w1, hw1, ex⟩ := worst_ok (ow := ow) (ge := ge) (s := "own") hne
      obtain ⟨w2, hw2, ey⟩ := worst_ok (ow := ow) (ge := ge) (s := "general") hne
      rw [ex] at hx
      rw [ey] at hy
      obtain rfl := Option.some.inj hx
      obtain rfl := Option.some.inj hy
      have b1 := bst_b S6 "own" hw1
      have b2 := bst_b S6 "each" hw1
      have b3 := bst_b S6 "general" hw2
      have b4 := bst_b S6 "each" hw2
      have ht1' := e2 _ _ ht1
      have ha1' := ha1.mono e2
      refine ⟨_, rfl, t1, _, _, _, rfl, rfl, SqT.of ht1', rfl, _, rfl, t2, _, _, _, rfl, rfl, SqT.of ht2, rfl, ?_⟩
      refine ⟨ha1'.ins, Nb.nf T (.inl ha2), a1, a2, low (bst ow ge "own" w1) (bst ow ge "each" w1), low (bst ow ge "general" w2) (bst ow ge "each" w2), rfl, ha1', .inl ha2, szW b1 b2, szW b3 b4, fun H3 e3 => ⟨_, rfl, ?_⟩⟩
      show if decide (gMin (low (bst ow ge "own" w1) (bst ow ge "each" w1)) (low (bst ow ge "general" w2) (bst ow ge "each" w2)) ≤ 0) = true then _ else _
      have hgt := (Frc.low (t := bst ow ge "own" w1) b2.1).gt (Frc.low (t := bst ow ge "general" w2) b4.1)
      have e13 := e1.trans (e2.trans e3)
      by_cases z : bst ow ge "own" w1 * bst ow ge "each" w2 ≤ bst ow ge "general" w2 * bst ow ge "each" w1
      · rw [decide_eq_true (show gMin (low (bst ow ge "own" w1) (bst ow ge "each" w1)) (low (bst ow ge "general" w2) (bst ow ge "each" w2)) ≤ 0 from by have := mt hgt.mp (by omega); omega)]
        refine iteT ⟨_, rfl, t1, _, _, _, rfl, rfl, SqT.of (e3 _ _ ht1'), rfl, _, rfl, t1, _, _, _, rfl, rfl, SqT.of (e3 _ _ ht1'), rfl, _, rfl, t2, _, _, _, rfl, rfl, SqT.of (e3 _ _ ht2), rfl, (by show 3 ≤ sizeLine; decide), fun t ht => ?_⟩
        have e4 := Same.upd (o := .tup [a1, .str w1, .str w2]) ht
        refine k t a1 _ _ _ (e13.trans e4) hx0 hy0 upd_same ?_
        rw [show lessQ (w3 ow ge "own" w1) (w3 ow ge "general" w2) = low (bst ow ge "own" w1) (bst ow ge "each" w1) from if_pos z]
        exact ha1'.mono (e3.trans e4)
      · rw [decide_eq_false (show ¬ gMin (low (bst ow ge "own" w1) (bst ow ge "each" w1)) (low (bst ow ge "general" w2) (bst ow ge "each" w2)) ≤ 0 from by have := hgt.mpr (by omega); omega)]
        refine iteF ⟨_, rfl, t2, _, _, _, rfl, rfl, SqT.of (e3 _ _ ht2), rfl, _, rfl, t1, _, _, _, rfl, rfl, SqT.of (e3 _ _ ht1'), rfl, _, rfl, t2, _, _, _, rfl, rfl, SqT.of (e3 _ _ ht2), rfl, (by show 3 ≤ sizeLine; decide), fun t ht => ?_⟩
        have e4 := Same.upd (o := .tup [a2, .str w1, .str w2]) ht
        refine k t a2 _ _ _ (e13.trans e4) hx0 hy0 upd_same ?_
        rw [show lessQ (w3 ow ge "own" w1) (w3 ow ge "general" w2) = low (bst ow ge "general" w2) (bst ow ge "each" w2) from if_neg z]
        exact ha2.mono (e3.trans e4)
def spOpp (K : Frag) (C CB CP CA : Addr) : Sp1 := fun vs H _ _ E => ∃ vb v b, vs = [vb, v] ∧ BkAt C CB H vb b ∧ NoIn K CP H v ∧ Rz CA "value" v H E
theorem ok_oppo (F : Fun Z.K "opponent" "opponent" s_opponent f fd) (c_check_book : Cal Z CX0 1 "check_book" ["book"] [] (spChkB C CB)) (c_check_prices : Cal Z (CXN Z) 2 "check_prices" ["prices"] [] (spCkPX Z.K C CP CA)) :
    Gen1 Z.P Z.w Z.K Z.mg Z.base 4 f fd ["book", "prices"] (spOpp Z.K C CB CP CA) := by
  refine Fun.okY1 F sc_opponent (fun vs H Qy Qn E h => ?_) (fun cdv A outer s H vs Qy Qn E pn hr h => ?_)
  · obtain ⟨vb, v, b, rfl, _⟩ := h
    rfl
  · obtain ⟨vb, v, b, rfl, hb, hn, k⟩ := h
    refine ⟨_, ss1_cons (s1_ps (ps_expr (pe_cal c_check_book (hr.mono (by decide)) (by rfl) pass0 (pa_cons (pv 0) pa_nil)))) (ss1_cons (s1_ps (ps_expr (pe_cal c_check_prices (hr.mono (by decide)) (by rfl) (passN (takesN_of takes_gcx)) (pa_cons (pv 1) pa_nil)))) ss1_never), ?_⟩
    exact ⟨_, rfl, vb, b, rfl, hb, _, rfl, v, rfl, .inr ⟨hn, k⟩⟩
end
end Ps

/-! The states behind a book are few. -/
namespace Ps
open PySem PySem.Spec PyProof.Rows PySem.W L2

def memsN (ks : List Str) : Nat → List (List Str)
  | 0 => [[]]
  | n + 1 => (memsN ks n).flatMap fun m => ks.map (· :: m)
theorem memsN_mem {ks : List Str} : ∀ {m : List Str}, (∀ w ∈ m, w ∈ ks) → m ∈ memsN ks m.length
  | [], _ => List.mem_singleton.mpr rfl
  | w :: m, h => by
    show (w :: m) ∈ (memsN ks m.length).flatMap fun m => ks.map (· :: m)
    exact List.mem_flatMap.mpr ⟨m, memsN_mem fun x hx => h x (List.mem_cons_of_mem _ hx), List.mem_map.mpr ⟨w, h w (List.mem_cons_self ..), rfl⟩⟩
theorem flat_len {α β : Type} {f : α → List β} {k : Nat} : ∀ {l : List α}, (∀ x ∈ l, (f x).length ≤ k) → (l.flatMap f).length ≤ l.length * k
  | [], _ => Nat.zero_le _
  | x :: r, h => by
    rw [List.flatMap_cons, List.length_append, List.length_cons, Nat.succ_mul]
    have a := h x (List.mem_cons_self ..)
    have b := flat_len (l := r) fun y hy => h y (List.mem_cons_of_mem _ hy)
    omega
theorem memsN_len {ks : List Str} (hk : ks.length ≤ 5) : ∀ n, (memsN ks n).length ≤ 5 ^ n
  | 0 => Nat.le_refl _
  | n + 1 => by
    refine Nat.le_trans (flat_len (k := 5) fun m _ => by rw [List.length_map]; exact hk) ?_
    rw [Nat.pow_succ]
    exact Nat.mul_le_mul_right 5 (memsN_len hk n)
def mems6 (ks : List Str) : List (List Str) := memsN ks 0 ++ (memsN ks 1 ++ (memsN ks 2 ++ (memsN ks 3 ++ (memsN ks 4 ++ (memsN ks 5 ++ memsN ks 6)))))
theorem mems6_mem {ks m : List Str} (h : ∀ w ∈ m, w ∈ ks) (hl : m.length ≤ 6) : m ∈ mems6 ks := by
  have a := memsN_mem h
  unfold mems6
  simp only [List.mem_append]
  generalize m.length = n at a hl
  have : n = 0 ∨ n = 1 ∨ n = 2 ∨ n = 3 ∨ n = 4 ∨ n = 5 ∨ n = 6 := by omega
  rcases this with rfl | rfl | rfl | rfl | rfl | rfl | rfl
  · exact .inl a
  · exact .inr (.inl a)
  · exact .inr (.inr (.inl a))
  · exact .inr (.inr (.inr (.inl a)))
  · exact .inr (.inr (.inr (.inr (.inl a))))
  · exact .inr (.inr (.inr (.inr (.inr (.inl a)))))
  · exact .inr (.inr (.inr (.inr (.inr (.inr a)))))
theorem mems6_len {ks : List Str} (hk : ks.length ≤ 5) : (mems6 ks).length ≤ 19531 := by
  have a := memsN_len hk
  have a0 := a 0
  have a1 := a 1
  have a2 := a 2
  have a3 := a 3
  have a4 := a 4
  have a5 := a 5
  have a6 := a 6
  unfold mems6
  simp only [List.length_append]
  simp only [Nat.reducePow] at a0 a1 a2 a3 a4 a5 a6
  omega
def gens9 : List (Option Int) := none :: (List.range 10).map fun n : Nat => some ((n : Nat) : Int)
theorem gens9_mem {n : Int} (h0 : 0 ≤ n) (h1 : n < 10) : some n ∈ gens9 := by
  refine List.mem_cons_of_mem _ (List.mem_map.mpr ⟨n.toNat, List.mem_range.mpr (by omega), ?_⟩)
  show some ((n.toNat : Nat) : Int) = some n
  rw [Int.toNat_of_nonneg h0]
theorem bool_in (b : Bool) : b ∈ [true, false] := by cases b <;> simp
theorem few_of {b : Bk} {P : PrS} (hb : BkOk b) (hk : P.ks.length ≤ 5) : FewS b P 90000 := by
  refine ⟨[true, false].flatMap (fun k => (mems6 (P.ks.map (·.1))).map (BSt.own k ·)) ++ [true, false].flatMap (fun k => gens9.map (BSt.gen k ·)), ?_, ?_⟩
  · have a := mems6_len (ks := P.ks.map (·.1)) (by rw [List.length_map]; exact hk)
    rw [List.length_append]
    have b1 := flat_len (f := fun k => (mems6 (P.ks.map (·.1))).map (BSt.own k ·)) (l := [true, false]) (k := 19531) fun x _ => by rw [List.length_map]; exact a
    have b2 := flat_len (f := fun k => gens9.map (BSt.gen k ·)) (l := [true, false]) (k := 11) fun x _ => by rw [List.length_map]; exact Nat.le_refl _
    have c : [true, false].length = 2 := rfl
    rw [c] at b1 b2
    omega
  · intro s hs
    cases s with
    | own k m =>
      obtain ⟨h1, h2, h3⟩ := hs
      refine List.mem_append_left _ (List.mem_flatMap.mpr ⟨k, bool_in k, List.mem_map.mpr ⟨m, mems6_mem h2 ?_, rfl⟩⟩)
      have t := hb.tr
      cases e : b.tries with
      | none =>
        rw [e] at h3
        have h3 : m = [] := h3
        rw [h3]
        exact Nat.zero_le _
      | some n =>
        rw [e] at h3
        have h3 : if b.sliding then (m.length : Int) ≤ n else (m.length : Int) < n ∧ srtW m = m := h3
        have := t n e
        split at h3 <;> omega
    | gen k c =>
      obtain ⟨h1, h2⟩ := hs
      refine List.mem_append_right _ (List.mem_flatMap.mpr ⟨k, bool_in k, List.mem_map.mpr ⟨c, ?_, rfl⟩⟩)
      have t := hb.af
      unfold Bk.looks at h2
      cases e : b.after with
      | ever =>
        rw [e] at h2
        rw [show c = none from h2]
        exact List.mem_cons_self ..
      | doubt q =>
        rw [e] at h2
        rw [show c = none from h2]
        exact List.mem_cons_self ..
      | look i =>
        rw [e] at h2 t
        obtain ⟨n, rfl, h3, h4⟩ := (show ∃ n, c = some n ∧ 0 ≤ n ∧ n < i from h2)
        have t : 1 ≤ i ∧ i ≤ 9 := t
        exact gens9_mem h3 (by omega)
end Ps

/-! The sums of prices as sixths. -/
namespace Ps
open PySem PySem.Spec PyProof.Rows PySem.W L2

abbrev lOw (P : PrD) (w : Str) : Int := P.make + (lkD P w).1
abbrev lGe (P : PrD) (w : Str) : Int := (lkD P w).2
theorem sixP_of {P : PrD} (g : PrG P) : SixP (prOf P) (lOw P) (lGe P) P.gen := by
  have hw : ∀ w, w ∈ (prOf P).ks.map (·.1) → w ∈ P.ks.map (·.1) := fun w h => (prOf_names P w).mp h
  have m := g.m
  have gg := g.g
  refine ⟨fun w h => ?_, fun w h => ?_, rfl, fun w h => ?_, fun w h => ?_, by omega⟩
  · rw [lk_both g (hw w h)]
    show gAdd (low P.make 6) (low (lkD P w).1 6) = _
    rw [low6_add]
  · rw [lk_both g (hw w h)]
  · have := lkD_b g (hw w h)
    show 0 < P.make + (lkD P w).1 ∧ P.make + (lkD P w).1 ≤ 1000
    omega
  · have := lkD_b g (hw w h)
    show 0 < (lkD P w).2 ∧ (lkD P w).2 ≤ 1000
    omega
end Ps

/-! The laws' own play of a row. -/
namespace Ps
open PySem PySem.Spec PyProof.Rows PySem.W L2 LamX

/-- the state behind a row -/
def lstS (pl : Plan) (P : PrD) (s : BSt) (ws : List Str) : BSt := ws.foldl (fun s w => (bkOfPl pl).next (prOf P) s w) s
/-- what is told of each ask -/
def lpl (pl : Plan) (P : PrD) : BSt → List Str → List (Str × Bool × Int)
  | _, [] => []
  | s, w :: r => (w, (bkOfPl pl).isOwn s, lpay pl P s w) :: lpl pl P ((bkOfPl pl).next (prOf P) s w) r
def s0 (pl : Plan) : BSt := (bkOfPl pl).begun false
section
variable {pl : Plan} {P : PrD} {s : BSt} {ws : List Str} {w : Str}
theorem lstS_snoc : lstS pl P s (ws ++ [w]) = (bkOfPl pl).next (prOf P) (lstS pl P s ws) w := by
  unfold lstS
  rw [List.foldl_append]
  rfl
theorem lpl_snoc : ∀ {ws : List Str} {s : BSt}, lpl pl P s (ws ++ [w]) = lpl pl P s ws ++ [(w, (bkOfPl pl).isOwn (lstS pl P s ws), lpay pl P (lstS pl P s ws) w)]
  | [], s => rfl
  | v :: r, s => by
    show _ :: lpl pl P _ (r ++ [w]) = _ :: (lpl pl P _ r ++ _)
    rw [lpl_snoc]
    rfl
theorem lpl_len : ∀ {ws : List Str} {s : BSt}, (lpl pl P s ws).length = ws.length
  | [], _ => rfl
  | _ :: r, _ => congrArg (· + 1) (lpl_len (ws := r))
theorem lstS_wf (hb : BkOk (bkOfPl pl)) (hs : (bkOfPl pl).wf (prOf P) s) (hw : ∀ w ∈ ws, w ∈ P.ks.map (·.1)) : (bkOfPl pl).wf (prOf P) (lstS pl P s ws) := by
  induction ws generalizing s with
  | nil => exact hs
  | cons w r ih => exact ih (next_wf hb hs ((prOf_names P w).mpr (hw w (List.mem_cons_self ..)))) fun v hv => hw v (List.mem_cons_of_mem _ hv)
theorem lpay_b (g : PrG P) (s : BSt) (hw : w ∈ P.ks.map (·.1)) : 0 ≤ lpay pl P s w ∧ lpay pl P s w ≤ 1000 := by
  have bk := lkD_b g hw
  have bm := g.m
  have bg := g.g
  unfold lpay
  split
  · omega
  · split <;> omega
/-- the sum, in sixths -/
def lpaid (pl : Plan) (P : PrD) (s : BSt) (ws : List Str) : Int := ((lpl pl P s ws).map (·.2.2)).sum
theorem lpaid_snoc : lpaid pl P s (ws ++ [w]) = lpaid pl P s ws + lpay pl P (lstS pl P s ws) w := by
  unfold lpaid
  rw [lpl_snoc, List.map_append, List.sum_append]
  simp
theorem lpaid_b (g : PrG P) : ∀ {ws : List Str} {s : BSt}, (∀ w ∈ ws, w ∈ P.ks.map (·.1)) → 0 ≤ lpaid pl P s ws ∧ lpaid pl P s ws ≤ 1000 * (ws.length : Nat)
  | [], _, _ => ⟨Int.le_refl 0, Int.le_refl 0⟩
  | w :: r, s, h => by
    have h1 := lpay_b (pl := pl) g s (h w (List.mem_cons_self ..))
    have h2 := lpaid_b g (ws := r) (s := (bkOfPl pl).next (prOf P) s w) fun v hv => h v (List.mem_cons_of_mem _ hv)
    have e : lpaid pl P s (w :: r) = lpay pl P s w + lpaid pl P ((bkOfPl pl).next (prOf P) s w) r := by
      unfold lpaid
      show ((_ :: (lpl pl P ((bkOfPl pl).next (prOf P) s w) r).map (·.2.2))).sum = _
      rw [List.sum_cons]
    have e2 : ((w :: r).length : Nat) = r.length + 1 := rfl
    rw [e, e2]
    push_cast
    omega
end
/-- what the play tells, at a list of tuples -/
def PdV (H : Hp) (y : V) (x : Str × Bool × Int) : Prop := ∃ t, y = .ref t ∧ H t = some (.tup [.str x.1, plV x.2.1, .int x.2.2])
theorem PdV.gr {T : List (Addr × Str)} {H H' : Hp} {y : V} {x : Str × Bool × Int} (g : Gr T none H H') (h : PdV H y x) : PdV H' y x := let ⟨t, e, h⟩ := h; ⟨t, e, g.at h⟩
def spLPlay (T : List (Addr × Str)) : Sp := fun vs H Q _ => ∃ a pl vf va v P l ws, vs = [.ref a, v, .ref l] ∧ PlAt H a pl vf va ∧ PlOk pl ∧ PrAt H v P ∧ PrG P ∧ H l = some (.lst (ws.map V.str)) ∧ ws.length ≤ 1000 ∧ (∀ w ∈ ws, w ∈ P.ks.map (·.1)) ∧ Tabs T H ∧
  ∀ r D st ys H', Gr T none H H' → H r = none → H' r = some (.lst [.ref D, st]) → H D = none → H' D = some (.lst ys) → Al (fun y x => PdV H' y x) ys (lpl pl P (s0 pl) ws) → StV H' st (lstS pl P (s0 pl) ws) → Q (.ref r) H'
section
variable {Z : Cz} {f C CB CP : Addr} {fd : FuncData} {T0 : List (Addr × Str)}
end
end Ps

/-! The laws' own costs and bests of rows. -/
namespace Ps
open PySem PySem.Spec PyProof.Rows PySem.W L2 LamX

theorem lpaid_R {pl : Plan} {P : PrD} : ∀ {ws : List Str} {s : BSt}, lpaid pl P s ws = paidR (bkOfPl pl) (prOf P) (lpay pl P) s ws
  | [], _ => rfl
  | w :: r, s => by
    show ((_ :: (lpl pl P ((bkOfPl pl).next (prOf P) s w) r).map (·.2.2))).sum = lpay pl P s w + paidR (bkOfPl pl) (prOf P) (lpay pl P) ((bkOfPl pl).next (prOf P) s w) r
    rw [List.sum_cons, ← lpaid_R]
    rfl
def spLCost (T : List (Addr × Str)) : Sp := fun vs H Q _ => ∃ a pl vf va v P l, ∃ ws : List Str, vs = [.ref a, v, .ref l] ∧ PlAt H a pl vf va ∧ PlOk pl ∧ PrAt H v P ∧ PrG P ∧ H l = some (.lst (ws.map V.str)) ∧ ws.length ≤ 1000 ∧ (∀ w ∈ ws, w ∈ P.ks.map (·.1)) ∧ Tabs T H ∧ ∀ H', Gr T none H H' → Q (.int (lpaid pl P (s0 pl) ws)) H'
def spLLess : Sp := fun vs H Q _ => ∃ i j : Int, vs = [.int i, .int j] ∧ Q (.int (if i ≤ j then i else j)) H
def spLBest : Sp := fun vs H Q _ => ∃ v P w s, vs = [v, .str w, .str s] ∧ PrAt H v P ∧ PrG P ∧ w ∈ P.ks.map (·.1) ∧ Q (.int (bst (lOw P) (lGe P) s w)) H
def spLSum1 : Sp := fun vs H Q _ => ∃ v P l s, ∃ ws : List Str, vs = [v, .ref l, .str s] ∧ PrAt H v P ∧ PrG P ∧ H l = some (.lst (ws.map V.str)) ∧ ws.length ≤ 1000 ∧ (∀ w ∈ ws, w ∈ P.ks.map (·.1)) ∧ s ≠ "one" ∧ ∀ H', Same H H' → Q (.int (bestA (lOw P) (lGe P) P.gen s [(ws, 1)])) H'
def spLSum : Sp := fun vs H Q _ => ∃ v P l s, ∃ ws : List Str, vs = [v, .ref l, .str s] ∧ PrAt H v P ∧ PrG P ∧ H l = some (.lst (ws.map V.str)) ∧ ws.length ≤ 1000 ∧ (∀ w ∈ ws, w ∈ P.ks.map (·.1)) ∧ ∀ H', Same H H' → Q (.int (bestA (lOw P) (lGe P) P.gen s [(ws, 1)])) H'
theorem asks_one {ws : List Str} : 0 < asks [(ws, 1)] ↔ ws ≠ [] := by
  have e : asks [(ws, 1)] = ((ws.length : Nat) : Int) := by
    show ((ws.length : Nat) : Int) * ((1 : Nat) : Int) + 0 = _
    simp
  rw [e]
  constructor
  · rintro h rfl
    exact absurd h (by decide)
  · intro h
    have := List.length_pos_iff.mpr h
    omega
theorem partB_one {ow ge : Str → Int} {s : Str} {ws : List Str} : partB ow ge s [(ws, 1)] = sumB ow ge s ws := by
  show sumB ow ge s ws * ((1 : Nat) : Int) + 0 = _
  simp
theorem strs_ok {P : PrD} (g : PrG P) {ws : List Str} (hw : ∀ w ∈ ws, w ∈ P.ks.map (·.1)) : ∀ z ∈ ws, PyData.strOk z = true := fun z hz => isW_strOk (g.w.w z (hw z hz))
theorem eqv_nil' {ws : List Str} : PyData.eqv (.list (ws.map PyData.str)) (.list []) = decide (ws = []) := by
  cases ws with
  | nil => rfl
  | cons w r => rfl
section
variable {Z : Cz} {f C CB CP : Addr} {fd : FuncData} {T0 : List (Addr × Str)}
theorem ok_llesser (F : Fun Z.K "_law_lesser" "_law_lesser" s_lw_lesser f fd) : Z.ok CX0 1 f fd ["_law_one", "_law_other"] spLLess := by
  refine F.ok sc_lw_lesser (fun vs H Q E h => ?_) (fun cdv A outer s H vs Q E hr h => ?_)
  · obtain ⟨i, j, rfl, _⟩ := h
    rfl
  · obtain ⟨i, j, rfl, k⟩ := h
    refine ⟨_, (pss_one (ps_ret (pe_ifExp (pt_cmpR op_lt (pv 0) (pv 1) (nomark _)) (pv 0) (pv 1)))), ?_⟩
    refine ⟨_, rfl, _, rfl, _, _, rfl, rfl, _, rfl, iteD (fun h => ?_) (fun h => ?_)⟩
    · rw [if_pos (by omega)] at k
      exact ⟨_, rfl, k⟩
    · by_cases e : i = j
      · subst e
        rw [if_pos (Int.le_refl _)] at k
        exact ⟨_, rfl, k⟩
      · rw [if_neg (by omega)] at k
        exact ⟨_, rfl, k⟩
theorem ok_lbest (F : Fun Z.K "_law_best_of" "_law_best_of" s_lw_best_of f fd) (c_lw_lesser : Cal Z CX0 1 "_law_lesser" ["_law_one", "_law_other"] [] spLLess) : Z.ok CX0 2 f fd ["_law_prices_here", "_law_kind", "_law_sort"] spLBest := by
  refine F.ok sc_lw_best_of (fun vs H Q E h => ?_) (fun cdv A outer s H vs Q E hr h => ?_)
  · obtain ⟨v, P, w, s, rfl, _⟩ := h
    rfl
  · obtain ⟨v, P, w, s, rfl, hP, g, hw, k⟩ := h
    refine ⟨_, (pss_cons (ps_asg (pe_dget (hu_of hr) (pe_dget (hu_of hr) (pv 0) pe_str (fun _ _ => rfl)) (pv 1) (fun _ _ => rfl)) (pg_tup (by rfl) (pgs_cons (pg_name (i := 3) sc_lw_best_of.nd rfl (Or.inl rfl)) (pgs_cons (pg_name (i := 4) sc_lw_best_of.nd rfl (Or.inl rfl)) pgs_nil))))
      (pss_cons (ps_if (pt_cmpR op_eq (pv 2) pe_str (nomark _))
      (pss_one (ps_ret (pe_op op_add (pe_dget (hu_of hr) (pv 0) pe_str (fun _ _ => rfl)) (pv 3))))
      pss_nil)
      (pss_one (ps_ret (pe_ifExp (pt_cmpR op_eq (pv 2) pe_str (nomark _)) (pv 4) (pe_cal c_lw_lesser (hr.mono (by decide)) (by rfl) pass0 (pa_cons (pe_op op_add (pe_dget (hu_of hr) (pv 0) pe_str (fun _ _ => rfl)) (pv 3)) (pa_cons (pv 4) pa_nil)))))))), ?_⟩
    obtain ⟨d, kd, tk, e1, g1, g2, htk⟩ := hP.kind g hw
    obtain ⟨d', e1', gm, gg⟩ := hP.mk_
    rw [e1] at e1'
    obtain rfl : d = d' := V.ref.inj e1'
    subst e1
    have eq_ : ∀ y : Str, decide (V.str s = V.str y) = decide (s = y) := fun y => decide_eq_decide.mpr ⟨V.str.inj, congrArg _⟩
    refine ⟨_, rfl, d, _, rfl, g1, _, rfl, kd, _, rfl, g2, tk, _, rfl, SqT.of htk, rfl, _, _, rfl, _, _, rfl, rfl, ?_⟩
    refine ⟨_, rfl, rfl, _, rfl, ?_⟩
    rw [eq_]
    by_cases h1 : s = "own"
    · subst h1
      rw [show bst (lOw P) (lGe P) "own" w = P.make + (lkD P w).1 from rfl] at k
      exact iteT ⟨_, rfl, d, _, rfl, gm, _, rfl, _, _, rfl, rfl, k⟩
    · rw [decide_eq_false h1]
      refine iteF ⟨_, rfl, rfl, _, rfl, ?_⟩
      rw [eq_]
      by_cases h2 : s = "general"
      · subst h2
        rw [show bst (lOw P) (lGe P) "general" w = (lkD P w).2 from rfl] at k
        exact iteT ⟨_, rfl, k⟩
      · rw [decide_eq_false h2]
        have e : bst (lOw P) (lGe P) s w = if P.make + (lkD P w).1 ≤ (lkD P w).2 then P.make + (lkD P w).1 else (lkD P w).2 := by
          unfold bst
          rw [if_neg h1, if_neg h2]
        rw [e] at k
        exact iteF ⟨_, rfl, d, _, rfl, gm, _, rfl, _, _, rfl, rfl, _, rfl, _, _, rfl, k⟩
end
end Ps

/-! try with several named clauses, whatever context the error carries (an error out of a generator). -/
namespace Ps.TC
open PySem PySem.Spec PyProof.Rows L2

inductive HdsN (X : Cx) : List ExceptHandler → List Cl → Prop
  | nil : HdsN X [] []
  | cons {x n : Str} {c : Value} {i : Nat} {ts : Addr → Value → Option Addr → TS} {b₀ : Stmt} {suite : List Stmt} {np pos' : Pos} {hds : List ExceptHandler} {l : List Cl} (hi : X.N[i]? = some n) (hln : X.env.kindOf n = some .local) (hc : Names X x c)
      (hsu : ∀ (a : Addr) (oe : Obj) (cls : Value) (d : Option Addr) (pn : List (Addr × Obj)), L2.Zc cls d oe → (∃ vs, oe.data = .fields vs) → PSs (X.suite a ((a, oe) :: pn)) (b₀ :: suite) (ts a cls d)) (r : HdsN X hds l) :
      HdsN X (.ExceptHandler (some (.Name x np)) (some n) (b₀ :: suite) pos' :: hds) ((c, i, ts) :: l)
/-- the error has landed: s is the state, sI the one without it -/
structure Down (X : Cx) (pins : List (Addr × Obj)) (a : Addr) (B : Heap) (cls : Value) (d : Option Addr) (σ : L2.St) (H : Hp) (sI s : Shared) : Prop where
  inv : L2.Inv X pins σ H sI
  nb : ∀ b o, sI.heap.get? b = some o → b ∉ frs X.stack → B.get? b = some o
  up : sI.heap.UpToSlots s.heap
  fl : HandSPX.FlyingZ B (X.env :: X.outer) a (L2.Zc cls d) s.heap
  na : H a = none
  os : s.os = sI.os
  ag : AllBare s.gens
section
variable {X : Cx} {pins : List (Addr × Obj)} {a : Addr} {B : Heap} {cls : Value} {d : Option Addr} {σ : L2.St} {H : Hp} {sI s : Shared} {Wout : WX} {D : Ends}
theorem Down.here (G : Down X pins a B cls d σ H sI s) : L2.Inv X pins σ H s := G.inv.landed G.nb G.fl.1 G.up G.os G.ag
theorem Down.off (G : Down X pins a B cls d σ H sI s) (hf : X.env.frame = some X.env.locals) : a ≠ X.env.locals ∧ a ∉ X.fs := by
  obtain ⟨oe, vs, he, hz, hd⟩ := G.fl.there
  have nfr : a ∉ frs (X.env :: X.outer) := fun hm => by
    obtain ⟨_, o', e', hnf⟩ := G.fl.2.2.1.mem hm
    rw [he] at e'
    cases e'
    exact hnf _ hd
  refine ⟨fun z => nfr (List.mem_filterMap.mpr ⟨X.env, List.mem_cons_self, by rw [hf, z]⟩), fun hm => ?_⟩
  obtain ⟨e, h1, q⟩ := List.mem_filterMap.mp hm
  exact nfr (List.mem_filterMap.mpr ⟨e, List.mem_cons_of_mem _ h1, q⟩)
/-- no clause is left: it goes on -/
theorem down_nil (G : Down X pins a B cls d σ H sI s) (hs : X.stack = X.env :: X.outer) (hf : X.env.frame = some X.env.locals) (tk : L2.Takes X Wout) (w : Wout cls d σ H) : wpAny (model X.prog X.w) X.A (handleBy (.ref a) X.env []) (SP X pins D) X.xe s := by
  refine wpAny_handleBy_nil ?_
  obtain ⟨k1, k2, k3, oe, vs, T, oT, ts', he, hz, hd, h1, hr⟩ := id G.fl
  unfold PySem.passOn
  refine wpAny_bind (wpAny_field he hd h1 ?_)
  rw [if_neg (show ¬ ((Value.ref T == Value.none) = true) from by simp)]
  have fin : wpAny (model X.prog X.w) X.A (setFlight (.ref a) X.env.frame) (fun _ s4 => wpAny (model X.prog X.w) X.A (throw (.ref a) : Sem Flow) (SP X pins D) X.xe s4) X.xe s := by
    rw [hf]
    refine HandSPX.setFlight_upZ G.fl fun h4 hh4 up4 => wpAny_throw (tk _ _ ?_)
    exact ⟨a, B, sI, pins, σ, H, cls, d, rfl, G.inv, G.nb, G.up.trans up4, .inr (.inr (by rw [hs]; exact hh4)), G.na, G.os, G.ag, w⟩
  first
    | exact wpAny_bind (wpAny_pure (wpAny_bind fin))
    | exact wpAny_bind fin
/-- the clause's suite runs -/
theorem down_suite {n : Str} {i : Nat} {ts : Addr → Value → Option Addr → TS} {b₀ : Stmt} {suite : List Stmt} {pos' : Pos} {Q : Flow → Shared → Prop} {E1 E2 : Value → Shared → Prop} (G : Down X pins a B cls d σ H sI s) (hf : X.env.frame = some X.env.locals) (hN : X.N.Nodup) (hi : X.N[i]? = some n) (hln : X.env.kindOf n = some .local)
    (hsu : ∀ (a : Addr) (oe : Obj) (cls : Value) (d : Option Addr) (pn : List (Addr × Obj)), L2.Zc cls d oe → (∃ vs, oe.data = .fields vs) → PSs (X.suite a ((a, oe) :: pn)) (b₀ :: suite) (ts a cls d))
    (w : ts a cls d (endsN D i) (σ.set i (some (.ref a))) H) (hQ : ∀ f s', SP X pins D f s' → Q f s') :
    wpAny (model X.prog X.w) (X.A.mark (some (.ref a))) (storeName X.env n (.ref a)) (fun _ s5 => wpAny (model X.prog X.w) (X.A.mark (some (.ref a))) (execs (b₀ :: suite) X.env)
      (fun f s6 => wpAny (model X.prog X.w) X.A (do bindName X.env n .none; unbindBehindTheSuite X.env n pos') (fun _ s7 => Q f s7) X.xe s6) E2 s5) E1 s := by
  obtain ⟨oe, vs, he, hz, hd⟩ := G.fl.there
  have J := G.here
  obtain ⟨nL, nF⟩ := G.off hf
  have S4 := J.suite he hd G.na nL nF
  refine store_ok (X := X.suite a ((a, oe) :: (X.pn ++ pins))) (v := .ref a) S4 hN hi (.inl hln) rfl (fun s5 S5 => ?_) (.inr hln)
  refine wpAny_mono ((hsu a oe cls d (X.pn ++ pins) hz ⟨_, hd⟩).run [] s5 _ H _ S5 w) (fun f s6 hsp => ?_) (fun _ _ z => False.elim z)
  have away : ∀ {σ6 : L2.St} {H6 : Hp}, L2.Inv (X.suite a ((a, oe) :: (X.pn ++ pins))) [] σ6 H6 s6 → (∀ s7, L2.Inv X pins (σ6.set i none) H6 s7 → SP X pins D f s7) →
      wpAny (model X.prog X.w) X.A (do bindName X.env n .none; unbindBehindTheSuite X.env n pos') (fun _ s7 => Q f s7) X.xe s6 := fun {σ6 H6} S6 hq => gone_ok (S6.unsuite J.ok) hN hi hln fun s7 J7 => hQ _ _ (hq s7 J7)
  cases f with
  | next => obtain ⟨σ6, H6, S6, q6⟩ := hsp; exact away S6 fun s7 J7 => ⟨_, _, J7, q6⟩
  | brk => obtain ⟨σ6, H6, S6, q6⟩ := hsp; exact away S6 fun s7 J7 => ⟨_, _, J7, q6⟩
  | cont => obtain ⟨σ6, H6, S6, q6⟩ := hsp; exact away S6 fun s7 J7 => ⟨_, _, J7, q6⟩
  | ret u => obtain ⟨v6, σ6, H6, S6, r6, q6⟩ := hsp; exact away S6 fun s7 J7 => ⟨_, _, _, J7, r6, q6⟩
theorem down_all (hs : X.stack = X.env :: X.outer) (hf : X.env.frame = some X.env.locals) (hN : X.N.Nodup) (tk : L2.Takes X Wout) : ∀ {hds : List ExceptHandler} {l : List Cl}, HdsN X hds l → ∀ {s : Shared}, Down X pins a B cls d σ H sI s → wN X.K Wout D l cls d σ H →
    wpAny (model X.prog X.w) X.A (handleBy (.ref a) X.env hds) (SP X pins D) X.xe s
  | _, _, .nil, s, G, w => down_nil G hs hf tk w
  | _, _, @HdsN.cons _ x n c i ts b₀ suite np pos' hds l hi hln hc hsu r, s, G, w => by
    obtain ⟨b, hb1, hyes, hno⟩ := w
    obtain ⟨oe, vs, he, hz, hd⟩ := G.fl.there
    obtain ⟨nL, nF⟩ := G.off hf
    have S3 := G.here.suite he hd G.na nL nF
    refine wpAny_handleBy_cons (codeAny_handlers_test ?_) (by intro q; cases q)
    have LT : PySem.W.Looks (model X.prog X.w) s.heap (typeOf (.ref a)) cls := fun A Q E s k q => wpAny_typeOf_ref (k _ _ he) (by rw [hz.1]; exact q)
    have LM := PySem.W.exm_one (M := model X.prog X.w) G.here.kIn LT hb1
    have look : ∀ {Q : Value → Shared → Prop} {E : Value → Shared → Prop}, Q c s → wpAny (model X.prog X.w) (X.A.mark (some (.ref a))) (eval (.Name x np) X.env) Q E s := fun {Q E} q => by
      obtain ⟨hg, hdbg, hm | ⟨hm, hv, hnn⟩⟩ := hc
      · exact ld_glob (X := X.suite a ((a, oe) :: (X.pn ++ pins))) S3 hg hm q hdbg
      · exact ld_blt (X := X.suite a ((a, oe) :: (X.pn ++ pins))) S3 hg hm hv q hnn hdbg
    refine look (LM.here ?_)
    cases b with
    | false =>
      show wpAny _ X.A (handleBy (.ref a) X.env hds) _ _ _
      exact down_all hs hf hN tk r G (hno rfl)
    | true =>
      refine codeAny_handlers_suite_as ?_
      refine HandSPX.lands_againZ G.fl fun h4 fl4 up4 => ?_
      have G4 : Down X pins a B cls d σ H sI { s with heap := h4 } := ⟨G.inv, G.nb, G.up.trans up4, fl4, G.na, G.os, G.ag⟩
      exact down_suite G4 hf hN hi hln hsu (hyes rfl a G.na) (fun _ _ q => q)
end
section
variable {X : Cx} {body : List Stmt} {h₀ : ExceptHandler} {hds : List ExceptHandler} {l : List Cl} {pos : Pos} {tb : WX → TS} {Wout : WX}
/-- try: body / except A as n: .. / except B as n: .. -/
theorem ps_tryN (hs : X.stack = X.env :: X.outer) (hf : X.env.frame = some X.env.locals) (hN : X.N.Nodup) (tk : L2.Takes X Wout)
    (hb : ∀ (W : WX) (pn : List (Addr × Obj)) (xe : Value → Shared → Prop), L2.Takes (X.tr pn xe) W → PassesOwn (model X.prog X.w) X.A X.env xe → PSs (X.tr pn xe) body (tb W))
    (hh : HdsN X (h₀ :: hds) l) : PS X (.Try body (h₀ :: hds) [] [] pos) (fun D σ H => tb (wN X.K Wout D l) D σ H) := by
  refine ⟨fun pins s σ H D I h => ?_⟩
  have ok := I.ok
  have hfr : X.A.frames = some (X.env :: X.outer) := by rw [ok.frames, hs]
  refine wpAny_Try_except ?_
  have run := (hb (wN X.K Wout D l) (X.pn ++ pins) (fun e s₁ => wpAny (model X.prog X.w) X.A (noteFrame e X.env) (fun _ s₂ => wpAny (model X.prog X.w) X.A (setFlight e none) (fun _ s₃ =>
    wpAny (model X.prog X.w) X.A (handleBy e X.env (h₀ :: hds)) (SP X pins D) X.xe s₃) X.xe s₂) X.xe s₁) (fun u s' xx => ?_) PassesOwn.looking).run [] s σ H D (I.toTry _) h
  · refine wpAny_mono run (fun f s1 hsp => ?_) (fun e s1 he => he)
    cases f with
    | next => obtain ⟨σ', H', J', q⟩ := hsp; exact wpAny_execs_nil ⟨σ', H', J'.ofTry ok, q⟩
    | brk => obtain ⟨σ', H', J', q⟩ := hsp; exact ⟨σ', H', J'.ofTry ok, q⟩
    | cont => obtain ⟨σ', H', J', q⟩ := hsp; exact ⟨σ', H', J'.ofTry ok, q⟩
    | ret u => obtain ⟨v, σ', H', J', r, q⟩ := hsp; exact ⟨v, σ', H', J'.ofTry ok, r, q⟩
  · obtain ⟨a, B, sI, pins', σ', H', cls, d, rfl, J', nb, up, sky, na, os, ag, w⟩ := xx
    have sky' : Sky B (X.env :: X.outer) a (L2.Zc cls d) X.env.locals s'.heap := by rw [← hs]; exact sky
    show wpAny (model X.prog X.w) X.A (noteFrame (.ref a) X.env) _ _ _
    refine L2.Sky.land L2.Zc.steady hfr hf sky' fun h3 fl3 up3 => ?_
    exact down_all hs hf hN tk hh (s := { s' with heap := h3 }) ⟨J'.ofTry ok, nb, up.trans up3, fl3, na, os, ag⟩ w
end
end Ps.TC

/-! k35: the law's own worst, and what is told. -/
namespace Ps
open PySem PySem.Spec PyProof.Rows PySem.W L2 LamX

def spLWorst (T : List (Addr × Str)) : Sp := fun vs H Q _ => ∃ v P s, vs = [v, .str s] ∧ PrAt H v P ∧ PrG P ∧ Tabs T H ∧ ∀ l x H', Gr T none H H' → worstW (lOw P) (lGe P) s (srtW (P.ks.map (·.1))) = some x → H' l = some (.lst [.int x.1, .int x.2.1, .str x.2.2]) → Q (.ref l) H'
/-- the law's worst at v -/
def LWAt (H : Hp) (v : V) : Option W3 → Prop
  | none => v = .non
  | some x => ∃ l, v = .ref l ∧ H l = some (.lst [.int x.1, .int x.2.1, .str x.2.2])
theorem LWAt.mono {H H' : Hp} {v : V} {o : Option W3} (e : Same H H') (h : LWAt H v o) : LWAt H' v o := by
  cases o with
  | none => exact h
  | some x => obtain ⟨l, h1, h2⟩ := h; exact ⟨l, h1, e _ _ h2⟩
theorem prOf_nmE (P : PrD) : (prOf P).ks.map (·.1) = srtW (P.ks.map (·.1)) := by
  show (srtK _).map (·.1) = _
  rw [srtK_words, List.map_map]
  rfl
theorem lbst_b {P : PrD} (g : PrG P) (s : Str) {w : Str} (hw : w ∈ P.ks.map (·.1)) : 0 < bst (lOw P) (lGe P) s w ∧ bst (lOw P) (lGe P) s w ≤ 1000 := bst_b (sixP_of g) s (by rw [prOf_nmE]; exact (srtW_perm _).mem_iff.mpr hw)
def spTold35 (K : Frag) (CP : Addr) : Sp := fun vs H Q _ => ∃ v d, ∃ i : Int, vs = [.int i, v] ∧ NoIn K CP H v ∧ Dp K H v d ∧ Rp d ∧ ∀ H', Same H H' → Q (.str d.shown) H'
section
variable {Z : Cz} {f C CB CP CA PA fA : Addr} {fd : FuncData} {T0 : List (Addr × Str)}
theorem ok_lworst (F : Fun Z.K "_law_worst" "_law_worst" s_lw_worst f fd) (c_lw_sorted : Cal Z CX0 2 "_law_sorted" ["_law_some"] [] (spAsc Z.K T0)) (c_lw_best_of : Cal Z CX0 2 "_law_best_of" ["_law_prices_here", "_law_kind", "_law_sort"] [] spLBest) :
    Z.ok CX0 3 f fd ["_law_prices_here", "_law_side"] (spLWorst T0) := by
  refine F.ok sc_lw_worst (fun vs H Q E h => ?_) (fun cdv A outer s H vs Q E hr h => ?_)
  · obtain ⟨v, P, s, rfl, _⟩ := h
    rfl
  · obtain ⟨v, P, s, rfl, hP, hG, hT, k⟩ := h
    refine ⟨_, (pss_cons (ps_set (i := 2) sc_lw_worst.nd rfl (Or.inl rfl) pe_non)
      (pss_cons (ps_for PassesOwn.never rfl (pi_list (pe_cal c_lw_sorted (hr.mono (by decide)) (by rfl) pass0 (pa_cons (pe_dget (hu_of hr) (pv 0) pe_str (fun _ _ => rfl)) pa_nil))) (pg_name (i := 3) sc_lw_worst.nd rfl (Or.inl rfl))
      (pss_cons (ps_set (i := 4) sc_lw_worst.nd rfl (Or.inl rfl) (pe_cal c_lw_best_of (hr.mono (by decide)) (by rfl) pass0 (pa_cons (pv 0) (pa_cons (pv 3) (pa_cons (pv 1) pa_nil)))))
        (pss_cons (ps_set (i := 5) sc_lw_worst.nd rfl (Or.inl rfl) (pe_cal c_lw_best_of (hr.mono (by decide)) (by rfl) pass0 (pa_cons (pv 0) (pa_cons (pv 3) (pa_cons pe_str pa_nil)))))
        (pss_one (ps_if (PW.pt (pw_or (pt_cmpR op_isN (pv 2) pe_non (nomark _)) (pw_or1 (pt_cmpR op_gt (pe_op op_mul (pv 4) (pe_ix ix_list (pv 2) pe_int (fun _ _ => rfl))) (pe_op op_mul (pe_ix ix_list (pv 2) pe_int (fun _ _ => rfl)) (pv 5)) (nomark _)))))
        (pss_one (ps_set (i := 2) sc_lw_worst.nd rfl (Or.inl rfl) (pe_lst (pa_cons (pv 4) (pa_cons (pv 5) (pa_cons (pv 3) pa_nil))))))
        pss_nil)))))
      (pss_one (ps_ret (pv 2))))), ?_⟩
    obtain ⟨dd, kk, kvs, rfl, hdd, hkk, hki⟩ := id hP
    have hkw : kvs.map (fun kv => kV kv.1) = (P.ks.map (·.1)).map V.str := by
      have : kvs.map (fun kv => kV kv.1) = (kvs.map (·.1)).map kV := by rw [List.map_map]; rfl
      rw [this, hki.keys, List.map_map, List.map_map]
      rfl
    refine ⟨_, rfl, dd, _, rfl, .inl ⟨_, .inr "kinds", .inl hdd, rfl, rfl⟩, kk, _, rfl, hT, .inr (.inr ⟨kvs, .inl hkk, rfl⟩), fun y hy => ?_, fun lw H1 g1 hlw hlw1 => ?_⟩
    · rw [hkw] at hy
      obtain ⟨z, _, rfl⟩ := List.mem_map.mp hy
      exact ktx_w
    rw [hkw, srt_words] at hlw1
    refine ⟨lw, rfl, ⟨_, SqL.of hlw1⟩, ?_⟩
    refine for_list (K := Z.K) (a := lw) (xs := (srtW (P.ks.map (·.1))).map V.str) (fun j σ H' => Same H1 H' ∧ ∃ u o3 o4 o5, LWAt H' u (((srtW (P.ks.map (·.1))).take j).foldl (wstep (lOw P) (lGe P) s) none) ∧ σ = [some (.ref dd), some (.str s), some u, o3, o4, o5])
      ⟨.refl _, .non, _, _, _, rfl, rfl⟩ (fun j σ H' _ ⟨e, _⟩ => SqL.of (e _ _ hlw1)) ?_ ?_
    · rintro j x σ H2 hx ⟨e2, u, o3, o4, o5, hu, rfl⟩
      rw [List.getElem?_map] at hx
      obtain ⟨w, hw, rfl⟩ := Option.map_eq_some_iff.mp hx
      have hwm : w ∈ P.ks.map (·.1) := (srtW_perm _).mem_iff.mp (List.mem_of_getElem? hw)
      have et : (srtW (P.ks.map (·.1))).take (j + 1) = (srtW (P.ks.map (·.1))).take j ++ [w] := by rw [List.take_succ, hw]; rfl
      have ef : ((srtW (P.ks.map (·.1))).take (j + 1)).foldl (wstep (lOw P) (lGe P) s) none = wstep (lOw P) (lGe P) s (((srtW (P.ks.map (·.1))).take j).foldl (wstep (lOw P) (lGe P) s) none) w := by rw [et, List.foldl_append]; rfl
      rw [ef]
      generalize ((srtW (P.ks.map (·.1))).take j).foldl (wstep (lOw P) (lGe P) s) none = acc at hu ⊢
      have hP2 := (hP.gr g1).mono e2
      refine ⟨_, rfl, _, rfl, _, rfl, .ref dd, P, w, s, rfl, hP2, hG, hwm, ?_⟩
      refine ⟨_, rfl, _, rfl, .ref dd, P, w, "each", rfl, hP2, hG, hwm, ?_⟩
      have put : ∀ l, H2 l = none → Same H1 (upd H2 l (.lst [.int (bst (lOw P) (lGe P) s w), .int (bst (lOw P) (lGe P) "each" w), .str w])) ∧ LWAt (upd H2 l (.lst [.int (bst (lOw P) (lGe P) s w), .int (bst (lOw P) (lGe P) "each" w), .str w])) (.ref l) (some (w3 (lOw P) (lGe P) s w)) := fun l hl =>
        ⟨e2.trans (Same.upd hl), l, rfl, upd_same⟩
      cases acc with
      | none =>
        obtain rfl : u = V.non := hu
        refine ⟨_, rfl, rfl, _, rfl, iteT (iteT ⟨_, rfl, _, rfl, _, rfl, (by show 3 ≤ sizeLine; decide), fun l hl => ?_⟩)⟩
        obtain ⟨p1, p2⟩ := put l hl
        exact ⟨p1, _, _, _, _, p2, rfl⟩
      | some y =>
        obtain ⟨l0, rfl, hl0⟩ := hu
        refine ⟨_, rfl, rfl, _, rfl, iteF ⟨_, rfl, _, rfl, l0, _, _, _, rfl, rfl, SqL.of hl0, rfl, _, _, rfl, rfl, ?_⟩⟩
        have c1 := lbst_b hG s hwm
        have c2 := lbst_b hG "each" hwm
        refine ⟨.inl ⟨by omega, by omega⟩, ?_⟩
        refine ⟨_, rfl, l0, _, _, _, rfl, rfl, SqL.of hl0, rfl, _, rfl, _, _, rfl, rfl, .inr ⟨by omega, by omega⟩, _, _, rfl, rfl, _, rfl, ?_⟩
        have ew : wstep (lOw P) (lGe P) s (some y) w = if y.1 * bst (lOw P) (lGe P) "each" w < bst (lOw P) (lGe P) s w * y.2.1 then some (w3 (lOw P) (lGe P) s w) else some y := rfl
        rw [ew]
        show if decide (y.1 * bst (lOw P) (lGe P) "each" w < bst (lOw P) (lGe P) s w * y.2.1) = true then _ else _
        by_cases z : y.1 * bst (lOw P) (lGe P) "each" w < bst (lOw P) (lGe P) s w * y.2.1
        · rw [decide_eq_true z, if_pos z]
          refine iteT ⟨_, rfl, _, rfl, _, rfl, (by show 3 ≤ sizeLine; decide), fun l hl => ?_⟩
          obtain ⟨p1, p2⟩ := put l hl
          exact ⟨p1, _, _, _, _, p2, rfl⟩
        · rw [decide_eq_false z, if_neg z]
          exact iteF ⟨e2, _, _, _, _, ⟨l0, rfl, hl0⟩, rfl⟩
    · rintro σ H2 ⟨e2, u, o3, o4, o5, hu, rfl⟩
      have hne : srtW (P.ks.map (·.1)) ≠ [] := fun z => by
        have h1 := hG.w.l1
        rw [← (srtW_perm _).length_eq, z] at h1
        exact absurd h1 (by decide)
      obtain ⟨w, hw, hx⟩ := worst_ok (ow := lOw P) (ge := lGe P) (s := s) hne
      rw [List.length_map, List.take_length, show List.foldl (wstep (lOw P) (lGe P) s) none (srtW (P.ks.map (·.1))) = some (w3 (lOw P) (lGe P) s w) from hx] at hu
      obtain ⟨l, rfl, hl⟩ := hu
      exact ⟨_, rfl, k l _ H2 (g1.trans (.of e2)) hx hl⟩
theorem ok_told35 (F : Fun Z.K "_law_told" "_law_told" s_lw_told f fd) (mr : Z.mg "repr" = none) (KB : BkC Z CB) (TA : ExT Z.K Z.mg "BadArgument" "value" "BadArgument.__init__" CA PA fA) (eAA : exmOne Z.K (.ref CA) (.ref CA) = some true) (sAA : subIn Z.K (.ref CA) (.type "StopIteration") = some false)
    (c_floor_of : Cal Z (CXN Z) 9 "floor_of" ["prices"] [] (spFloor Z.K C CP CA (fun _ => 0) (fun _ => 0) 0)) (c_opponent : CalG1 Z 4 "opponent" ["book", "prices"] [] (spOpp Z.K C CB CP CA)) (c_own : CalT Z CX0 12 CB "own_plans" (spOwn C CB none)) :
    FnG Z.P Z.w Z.K Z.mg Z.base CX0 13 f fd ["_law_door", "_law_prices_here"] (spTold35 Z.K CP) := by
  refine Fun.okG F sc_lw_told (fun vs H Q E h => ?_) (fun cdv A outer s H vs Q E hr hgd h => ?_)
  · obtain ⟨v, d, i, rfl, _⟩ := h
    rfl
  · obtain ⟨v, dd, i, rfl, hn, hd, hp, k⟩ := h
    have nd := sc_lw_told.nd
    refine ⟨_, PSs.nox (pss_cons (TC.ps_tryN (Wout := fun _ _ _ _ => False) rfl rfl nd (fun _ _ x => by obtain ⟨_, _, _, _, _, _, _, _, _, _, _, _, _, _, _, _, z⟩ := x; exact z.elim)
        (fun W pn xe tk po => pss_one (ps_if (pt_cmpR op_eq (pv 0) pe_int (nomark _)) (pss_one (ps_expr (pe_calS c_floor_of (hr.mono (by decide)) (by rfl) (fun σ => L2N.passAt (takesN_of tk) σ) (pa_cons (pv 1) pa_nil))))
          (pss_one (ps_for1 (pge1_cal (E := wNS Z.K W) c_opponent (hr.mono (by decide)) (by rfl) (pa_cons (pe_calT0 c_own (hr.mono (by decide)) pass0 (pe_glob (v := .ref CB) rfl KB.mg rfl)) (pa_cons (pv 1) pa_nil))) po (fun σ => passC tk σ) (fun σ => wNS.ns σ) (hr.mono (by decide)) (pg_name (i := 2) nd rfl (Or.inl rfl)) (pss_one (ps_ret (pv 2)))))))
        (TC.HdsN.cons (i := 3) rfl rfl ⟨rfl, by decide, Or.inl TA.gC⟩ (fun a oe cls d pn hz hf => pss_one (ps_ret (pe_callB (show CallR _ _ (rRepr Z.K) from call_repr hgd hr.units) (by rfl) mr (by decide +kernel) (pa_cons (pe_xf TA.xf TA.noN hz hf (pv 3)) pa_nil)))) .nil))
      (pss_one (ps_ret pe_str))), ?_⟩
    by_cases h0 : i = 0
    · subst h0
      refine ⟨_, rfl, rfl, _, rfl, iteT ⟨_, rfl, v, rfl, .inl ⟨hn, fun d H' e hd' hx' => ⟨true, eAA, fun _ a ha => ?_, fun z => by cases z⟩⟩⟩⟩
      exact ⟨_, rfl, rfl, rfl, d, _, _, rfl, hx', lookup_one, v, dd, rfl, Dp.mono e hd, hp.show_, hp.nod, hp.d60, hp.sz, k H' e⟩
    · have hdo : decide (V.int i = V.int 0) = false := decide_eq_false fun z => h0 (V.int.inj z)
      refine ⟨_, rfl, rfl, _, rfl, ?_⟩
      rw [hdo]
      refine iteF ⟨rfl, rfl, fun vb H1 e1 hb => ⟨_, rfl, vb, v, _, rfl, hb, hn.mono e1, fun d H' e hd' hx' => ⟨sAA, true, eAA, fun _ a ha => ?_, fun z => by cases z⟩⟩⟩
      exact ⟨_, rfl, rfl, rfl, d, _, _, rfl, hx', lookup_one, v, dd, rfl, Dp.mono (e1.trans e) hd, hp.show_, hp.nod, hp.d60, hp.sz, k H' (e1.trans e)⟩
end
end Ps

/-! k35: the law. -/
namespace Ps
open PySem PySem.Spec PyProof.Rows PySem.W L2 LamX

def spFloor1 (C CP : Addr) (P : PrD) : Sp := fun vs H Q _ => ∃ v, vs = [v] ∧ PrAtS C CP H v (prOf P) ∧ ∀ t a x y H', Same H H' → worstW (lOw P) (lGe P) "own" (srtW (P.ks.map (·.1))) = some x → worstW (lOw P) (lGe P) "general" (srtW (P.ks.map (·.1))) = some y → H' t = some (.tup [a, .str x.2.2, .str y.2.2]) → Sh C H' a (lessQ x y) → Q (.ref t) H'
def spFloorPl (C CP : Addr) : Sp := fun vs H Q E => ∃ P : PrD, PrG P ∧ spFloor1 C CP P vs H Q E
theorem spFloor1_of {K : Frag} {C CP CA : Addr} {P : PrD} (g : PrG P) {vs : List V} {H : Hp} {Q : VK} {E : XK} (h : spFloor1 C CP P vs H Q E) : spFloor K C CP CA (lOw P) (lGe P) P.gen vs H Q E0 := by
  obtain ⟨v, rfl, hP, k⟩ := h
  refine ⟨v, rfl, .inr ⟨prOf P, hP, prOf_ok g, sixP_of g, ?_⟩⟩
  rw [prOf_nmE]
  exact k
def six35 : List Str := ["f", "a", "e", "own", "c", "bb"]
theorem cut35 : ∀ n : Fin 6, cutV (six35.map V.str) none (some ((n.val + 1 : Nat) : Int)) = (six35.take (n.val + 1)).map V.str ∧ wsB (six35.take (n.val + 1)) = true := by decide +kernel
theorem fl_str (w : Str) {H : Hp} : DFl (.str w) (.str w) true H := ⟨rfl, rfl, (beq_self_eq_true w).symm⟩
theorem less_low {x y : W3} (h1 : 0 < x.2.1) (h2 : 0 < y.2.1) : low (if x.1 * y.2.1 ≤ y.1 * x.2.1 then x.1 * y.2.1 else y.1 * x.2.1) (x.2.1 * y.2.1) = lessQ x y := by
  unfold lessQ
  by_cases z : x.1 * y.2.1 ≤ y.1 * x.2.1
  · rw [if_pos z, if_pos z, Int.mul_comm x.1, Int.mul_comm x.2.1]
    exact low_scale _ _ _ (by omega) (by omega)
  · rw [if_neg z, if_neg z, Int.mul_comm y.1]
    exact low_scale _ _ _ (by omega) (by omega)
theorem each_own {ow ge : Str → Int} {w : Str} : bst ow ge "each" w ≤ bst ow ge "own" w := by
  show (if ow w ≤ ge w then ow w else ge w) ≤ ow w
  split <;> omega
theorem each_gen {ow ge : Str → Int} {w : Str} : bst ow ge "each" w ≤ bst ow ge "general" w := by
  show (if ow w ≤ ge w then ow w else ge w) ≤ ge w
  split <;> omega
theorem less_ge {x y : W3} (h1 : 0 < x.2.1) (h2 : 0 < y.2.1) (k1 : x.2.1 ≤ x.1) (k2 : y.2.1 ≤ y.1) : ¬ gMin (lessQ x y) (1, 1) < 0 := by
  unfold lessQ
  split
  · intro z
    have := ((Frc.low (t := x.1) h1).lt (Frc.int 1)).mp z
    omega
  · intro z
    have := ((Frc.low (t := y.1) h2).lt (Frc.int 1)).mp z
    omega
theorem less_sz {x y : W3} (h1 : 0 < x.1 ∧ x.1 ≤ 1000) (h2 : 0 < x.2.1 ∧ x.2.1 ≤ 1000) (h3 : 0 < y.1 ∧ y.1 ≤ 1000) (h4 : 0 < y.2.1 ∧ y.2.1 ≤ 1000) : Sz 4000 (lessQ x y) := by
  unfold lessQ
  split
  · exact szW h1 h2
  · exact szW h3 h4
section
variable {Z : Cz} {f C CB CP : Addr} {fd : FuncData} {T0 : List (Addr × Str)}
theorem ok_law (F : Fun Z.K "law" "law" s_lw_law f fd) (T : DrT Z) (S : ShT Z C) (MM : ShM Z C) (mr : Z.mg "repr" = none) (kP : ∀ t ∈ ([.type "int", .type "str", .type "NoneType"] : List Value), kitOne Z.K t (.ref CP) = some false) (c2 : CShare Z C)
    (c_lw_opened : Cal Z CX0 3 "_law_opened" ["_law_script", "_law_k", "_law_many"] [] (spOpened Z.K)) (c_lw_draw : Cal Z CX0 1 "_law_draw" ["_law_pool_here", "_law_many"] [] (spDr T0)) (c_lw_prices : Cal Z CX0 2 "_law_prices" ["_law_pool_here", "_law_words"] [] (spPrices Z.K T0))
    (c_lw_made_prices : Cal Z CX0 11 "_law_made_prices" ["_law_prices_here"] [] (spMPrices T0 C CP)) (c_lw_worst : Cal Z CX0 3 "_law_worst" ["_law_prices_here", "_law_side"] [] (spLWorst T0)) (c_lw_lesser : Cal Z CX0 1 "_law_lesser" ["_law_one", "_law_other"] [] spLLess)
    (c_floor_of : Cal Z CX0 9 "floor_of" ["prices"] [] (spFloorPl C CP)) (clt : CalS Z CX0 6 C "__lt__" ["self", "other"] (spOrd C fun i => decide (i < 0)))
    (c_told : CalG Z CX0 13 "_law_told" ["_law_door", "_law_prices_here"] (spTold35 Z.K CP)) :
    FnG Z.P Z.w Z.K Z.mg Z.base CX0 14 f fd ["_law_script"] (spLawT Z.K T0) := by
  refine Fun.okG F sc_lw_law (fun vs H Q E h => ?_) (fun cdv A outer s H vs Q E hr hgd h => ?_)
  · obtain ⟨a, ns, rfl, _⟩ := h
    rfl
  · obtain ⟨a, ns, rfl, hS, h63, hT, k⟩ := h
    refine ⟨_, PSs.nox ((pss_cons (ps_for PassesOwn.never rfl (pi_range1 (by rfl) T.range (pa_cons (pe_callB (call_max2 rfl) (by rfl) T.max (by decide +kernel) (pa_cons pe_int (pa_cons (pe_callB (call_min2 rfl) (by rfl) T.min (by decide +kernel) (pa_cons (pe_callB call_len_seq (by rfl) T.len PySem.boot_len (pa_cons (pv 0) pa_nil)) (pa_cons pe_int pa_nil))) pa_nil))) pa_nil)) (pg_name (i := 1) sc_lw_law.nd rfl (Or.inl rfl))
      (pss_cons (ps_set (i := 2) sc_lw_law.nd rfl (Or.inl rfl) (pe_cal c_lw_opened (hr.mono (by decide)) (by rfl) pass0 (pa_cons (pv 0) (pa_cons (pv 1) (pa_cons pe_int pa_nil)))))
        (pss_cons (ps_set (i := 3) sc_lw_law.nd rfl (Or.inl rfl) (pe_cal c_lw_prices (hr.mono (by decide)) (by rfl) pass0 (pa_cons (pv 2) (pa_cons (pe_slice sl_list (pe_lst (pa_cons pe_str (pa_cons pe_str (pa_cons pe_str (pa_cons pe_str (pa_cons pe_str (pa_cons pe_str pa_nil))))))) po_none (po_some (pe_op op_add pe_int (pe_cal c_lw_draw (hr.mono (by decide)) (by rfl) pass0 (pa_cons (pv 2) (pa_cons pe_int pa_nil)))))) pa_nil))))
        (pss_cons (ps_par (i := 4) (j := 5) (by rfl) sc_lw_law.nd rfl rfl (by decide) rfl rfl (pa_cons (pe_cal c_lw_worst (hr.mono (by decide)) (by rfl) pass0 (pa_cons (pv 3) (pa_cons pe_str pa_nil))) (pa_cons (pe_cal c_lw_worst (hr.mono (by decide)) (by rfl) pass0 (pa_cons (pv 3) (pa_cons pe_str pa_nil))) pa_nil)) (by rfl))
        (pss_cons (ps_set (i := 6) sc_lw_law.nd rfl (Or.inl rfl) (pe_cal c_lw_lesser (hr.mono (by decide)) (by rfl) pass0 (pa_cons (pe_op op_mul (pe_ix ix_list (pv 4) pe_int (fun _ _ => rfl)) (pe_ix ix_list (pv 5) pe_int (fun _ _ => rfl))) (pa_cons (pe_op op_mul (pe_ix ix_list (pv 5) pe_int (fun _ _ => rfl)) (pe_ix ix_list (pv 4) pe_int (fun _ _ => rfl))) pa_nil))))
        (pss_cons (ps_set (i := 7) sc_lw_law.nd rfl (Or.inl rfl) (pe_tup (pa_cons (pe_calC c2 (hr.mono (by decide)) (by rfl) pass0 (pa_cons (pv 6) (pa_cons (pe_op op_mul (pe_ix ix_list (pv 4) pe_int (fun _ _ => rfl)) (pe_ix ix_list (pv 5) pe_int (fun _ _ => rfl))) pa_nil))) (pa_cons (pe_ix ix_list (pv 4) pe_int (fun _ _ => rfl)) (pa_cons (pe_ix ix_list (pv 5) pe_int (fun _ _ => rfl)) pa_nil)))))
        (pss_cons (ps_set (i := 8) sc_lw_law.nd rfl (Or.inl rfl) (pe_cal c_lw_made_prices (hr.mono (by decide)) (by rfl) pass0 (pa_cons (pv 3) pa_nil)))
        (pss_cons (ps_if (PW.pt (pw_or (pt_cmpR (op_neTup (mon_in (C := C)) (eqB_in MM ⟨rfl, rfl, rfl, rfl, rfl⟩) (hr.mono (by decide))) (pe_cal c_floor_of (hr.mono (by decide)) (by rfl) pass0 (pa_cons (pv 8) pa_nil)) (pv 7) (nomark _)) (pw_or1 (pt_cmpR (op_cmp (op := .Lt) clt (hr.mono (by decide)) pass0) (pe_ix ix_tup (pe_cal c_floor_of (hr.mono (by decide)) (by rfl) pass0 (pa_cons (pv 8) pa_nil)) pe_int (fun _ _ => rfl)) pe_int (nomark _)))))
        (pss_one (ps_ret pe_bl))
        pss_nil)
        (pss_one (ps_for PassesOwn.never rfl (pi_list (pe_lst (pa_cons pe_non (pa_cons pe_int (pa_cons pe_str pa_nil))))) (pg_name (i := 9) sc_lw_law.nd rfl (Or.inr rfl))
        (pss_one (ps_if (pt_cmpR (op_neD hr.units) (pe_lc (own := [("_law_door", 10)]) (g := gName 10) (tt := tYes) (by rfl) sc_lw_law.nd (pi_range1 (by rfl) T.range (pa_cons pe_int pa_nil)) (blkOk_by (own := [("_law_door", 10)]) (N := ["_law_script", "_law_k", "_law_pool_here", "_law_prices_here", "_law_own", "_law_general", "_law_least", "_law_due", "_law_made", "_law_odd", "_law_door"]) (sc := defScope s_lw_law) (by decide +kernel)) (fun _ _ _ _ _ => (pg_name (i := 10) sc_lw_law.nd rfl (Or.inl rfl))) (fun _ _ _ _ _ => pts_nil) (fun _ _ _ _ _ => (pe_calG c_told (hr.mono (by decide)) hgd (by rfl) pass0 (pa_cons (pv 10) (pa_cons (pv 9) pa_nil))))) (pe_op op_rep (pe_lst (pa_cons (pe_callB (show CallR _ _ (rRepr Z.K) from call_repr hgd hr.units) (by rfl) mr (by decide +kernel) (pa_cons (pv 9) pa_nil)) pa_nil)) pe_int) (nomark _))
          (pss_one (ps_ret pe_bl))
          pss_nil))))))))))))
      (pss_one (ps_ret pe_bl)))), ?_⟩
    obtain ⟨n6, hn6, hn6'⟩ := many_cells ns 8 (by decide)
    refine ⟨_, rfl, a, _, rfl, .inl hS, _, _, rfl, _, _, rfl, _, rfl, ?_⟩
    rw [show (if (if (8 : Int) < ((ns.map V.int).length : Nat) then (8 : Int) else ((ns.map V.int).length : Nat)) > 1 then (if (8 : Int) < ((ns.map V.int).length : Nat) then (8 : Int) else ((ns.map V.int).length : Nat)) else 1) = (n6 : Int) from hn6]
    refine ⟨by omega, by omega, ?_⟩
    refine for_range (fun i σ H' => Tabs T0 H' ∧ SqL Z.K H' a (ns.map V.int) ∧ ∃ o1 o2 o3 o4 o5 o6 o7 o8 o9 o10 : Option V, σ = [some (.ref a), o1, o2, o3, o4, o5, o6, o7, o8, o9, o10]) ⟨hT, hS, none, none, none, none, none, none, none, none, none, none, rfl⟩ ?_ (fun σ H' _ => k H')
    rintro i σ H1 hi ⟨hT1, hS1, o1, o2, o3, o4, o5, o6, o7, o8, o9, o10, rfl⟩
    have hi' : i < n6 := by omega
    have ei : (0 : Int) + ((i : Nat) : Int) = ((i : Nat) : Int) := by omega
    -- the pool
    refine ⟨_, rfl, _, rfl, a, ns, i, 30, ?_, hS1, ?_, by omega, by decide, by decide, fun p q H2 ms e2 hp hq hPo => ?_⟩
    · show [V.ref a, V.int (0 + ((i : Nat) : Int)), V.int 30] = _
      rw [ei]
    · rcases hn6' with ⟨h | ⟨h, h1⟩, _⟩
      · exact .inl (by omega)
      · exact .inr ⟨h, by omega⟩
    have hP2 : Pl H2 p q ms := .of hPo
    -- prices
    refine ⟨_, rfl, (by show 6 ≤ sizeLine; decide), fun L hL => ?_⟩
    have u3 := Same.upd (o := .lst [.str "f", .str "a", .str "e", .str "own", .str "c", .str "bb"]) hL
    have hL1 : (upd H2 L (.lst [.str "f", .str "a", .str "e", .str "own", .str "c", .str "bb"])) L = some (.lst (six35.map V.str)) := upd_same
    have hP3 := hP2.mono u3
    have hLp : L ≠ p := hP2.fresh hL
    generalize (upd H2 L (.lst [.str "f", .str "a", .str "e", .str "own", .str "c", .str "bb"])) = H3 at u3 hL1 hP3 ⊢
    refine ⟨_, rfl, p, q, ms, 6, rfl, hP3, by decide, fun r H4 r0 r1 g4 => ⟨_, _, rfl, rfl, _, rfl, L, _, rfl, SqL.of (g4.at hL1 hLp), fun l1 hl1 => ?_⟩⟩
    obtain ⟨rn, rfl⟩ : ∃ rn : Nat, r = ((rn : Nat) : Int) := ⟨r.toNat, by omega⟩
    have hrn : rn < 6 := by omega
    have hcut := cut35 ⟨rn, hrn⟩
    rw [show 1 + ((rn : Nat) : Int) = ((rn + 1 : Nat) : Int) by omega, hcut.1]
    have hP4 := g4.pl hP3
    have u4 := Same.upd (o := .lst ((six35.take (rn + 1)).map V.str)) hl1
    have hl11 : (upd H4 l1 (.lst ((six35.take (rn + 1)).map V.str))) l1 = some (.lst ((six35.take (rn + 1)).map V.str)) := upd_same
    have hP5 := hP4.mono u4
    have hl1p : l1 ≠ p := hP4.fresh hl1
    have gA : Gr T0 none H1 (upd H4 l1 (.lst ((six35.take (rn + 1)).map V.str))) := ((((Gr.of e2).trans (.of u3)).gp0 hp g4)).trans (.of u4)
    generalize (upd H4 l1 (.lst ((six35.take (rn + 1)).map V.str))) = H5 at u4 hl11 hP5 gA ⊢
    refine ⟨p, q, ms, l1, _, rfl, hP5, hl11, hl1p, wsB_ok hcut.2, fun Pr vp H6 hPG hks g6 hPr => ?_⟩
    have hP6 := g6.pl hP5
    have gB := gA.gp0 hp g6
    refine ⟨_, rfl, vp, Pr, "own", rfl, hPr, hPG, gB.t hT1, fun lo x H7 g7 hx hlo => ?_⟩
    refine ⟨_, rfl, vp, Pr, "general", rfl, hPr.gr g7, hPG, (gB.trans g7).t hT1, fun lg y H8 g8 hy hlg => ?_⟩
    have hlo8 := g8.at hlo
    have gC := (gB.trans g7).trans g8
    have hne : srtW (Pr.ks.map (·.1)) ≠ [] := fun z => by
      have h1 := hPG.w.l1
      rw [← (srtW_perm _).length_eq, z] at h1
      exact absurd h1 (by decide)
    have hx0 := hx
    have hy0 := hy
    obtain ⟨w1, hw1, ex⟩ := worst_ok (ow := lOw Pr) (ge := lGe Pr) (s := "own") hne
    obtain ⟨w2, hw2, ey⟩ := worst_ok (ow := lOw Pr) (ge := lGe Pr) (s := "general") hne
    rw [ex] at hx
    rw [ey] at hy
    obtain rfl := Option.some.inj hx
    obtain rfl := Option.some.inj hy
    have hm1 := (srtW_perm _).mem_iff.mp hw1
    have hm2 := (srtW_perm _).mem_iff.mp hw2
    have b1 := lbst_b hPG "own" hm1
    have b2 := lbst_b hPG "each" hm1
    have b3 := lbst_b hPG "general" hm2
    have b4 := lbst_b hPG "each" hm2
    have hPr8 := (hPr.gr g7).gr g8
    refine ⟨_, _, rfl, ?_⟩
    have hT8 := gC.t hT1
    have hS8 := gC.seq hS1
    refine ⟨_, rfl, lo, _, _, _, rfl, rfl, SqL.of hlo8, rfl, _, rfl, lg, _, _, _, rfl, rfl, SqL.of hlg, rfl, _, _, rfl, rfl, .inl ⟨by show -(2 ^ 64) < bst (lOw Pr) (lGe Pr) "own" w1; omega, by show bst (lOw Pr) (lGe Pr) "own" w1 < 2 ^ 64; omega⟩, ?_⟩
    refine ⟨_, rfl, lg, _, _, _, rfl, rfl, SqL.of hlg, rfl, _, rfl, lo, _, _, _, rfl, rfl, SqL.of hlo8, rfl, _, _, rfl, rfl, .inl ⟨by show -(2 ^ 64) < bst (lOw Pr) (lGe Pr) "general" w2; omega, by show bst (lOw Pr) (lGe Pr) "general" w2 < 2 ^ 64; omega⟩, ?_⟩
    refine ⟨_, _, rfl, ?_⟩
    refine ⟨_, rfl, _, rfl, lo, _, _, _, rfl, rfl, SqL.of hlo8, rfl, _, rfl, lg, _, _, _, rfl, rfl, SqL.of hlg, rfl, _, _, rfl, rfl, .inl ⟨by show -(2 ^ 64) < bst (lOw Pr) (lGe Pr) "each" w1; omega, by show bst (lOw Pr) (lGe Pr) "each" w1 < 2 ^ 64; omega⟩, ?_⟩
    have pp := Int.mul_pos b2.1 b4.1
    have pl1 : bst (lOw Pr) (lGe Pr) "each" w1 * bst (lOw Pr) (lGe Pr) "each" w2 ≤ 1000 * 1000 := Int.mul_le_mul b2.2 b4.2 (by omega) (by decide)
    intro xa dx hxa hdx hdn
    refine mk_shI (by show bst (lOw Pr) (lGe Pr) "each" w1 * bst (lOw Pr) (lGe Pr) "each" w2 ≠ 0; omega) (lt_up (m := 40) (by show (bst (lOw Pr) (lGe Pr) "each" w1 * bst (lOw Pr) (lGe Pr) "each" w2).natAbs < _; omega) (by decide)) hxa hdx hdn fun H9 e9 z9 => ⟨rfl, ?_⟩
    refine ⟨_, rfl, lo, _, _, _, rfl, rfl, SqL.of (e9 _ _ hlo8), rfl, _, rfl, lg, _, _, _, rfl, rfl, SqL.of (e9 _ _ hlg), rfl, (by show 3 ≤ sizeLine; decide), fun td htd => ?_⟩
    have e10 := Same.upd (o := .tup [.ref xa, .str w1, .str w2]) htd
    have htd0 : (upd H9 td (.tup [.ref xa, .str w1, .str w2])) td = some (.tup [.ref xa, .str w1, .str w2]) := upd_same
    have hPr10 := (hPr8.mono e9).mono e10
    have gD := (gC.trans (.of e9)).trans (.of e10)
    replace z9 := z9.mono e10
    show tSeq _ _ _ _ (upd H9 td (.tup [.ref xa, .str w1, .str w2]))
    generalize (upd H9 td (.tup [.ref xa, .str w1, .str w2])) = H10 at e10 htd0 hPr10 gD z9 ⊢
    refine ⟨_, rfl, vp, Pr, rfl, hPr10, hPG, gD.t hT1, fun vm H11 g11 hms _ => ?_⟩
    refine ⟨_, rfl, Pr, hPG, vm, rfl, hms, fun t1 a1 x y H12 e12 hx hy ht1 ha1 => ?_⟩
    rw [ex] at hx
    rw [ey] at hy
    obtain rfl := Option.some.inj hx
    obtain rfl := Option.some.inj hy
    have gE := gD.trans g11
    have z11 : Sh C H12 (.ref xa) (lessQ (w3 (lOw Pr) (lGe Pr) "own" w1) (w3 (lOw Pr) (lGe Pr) "general" w2)) := by
      have h := (z9.gr g11).mono e12
      rw [show low (if (w3 (lOw Pr) (lGe Pr) "own" w1).1 * (w3 (lOw Pr) (lGe Pr) "general" w2).2.1 ≤ (w3 (lOw Pr) (lGe Pr) "general" w2).1 * (w3 (lOw Pr) (lGe Pr) "own" w1).2.1 then (w3 (lOw Pr) (lGe Pr) "own" w1).1 * (w3 (lOw Pr) (lGe Pr) "general" w2).2.1 else (w3 (lOw Pr) (lGe Pr) "general" w2).1 * (w3 (lOw Pr) (lGe Pr) "own" w1).2.1) ((w3 (lOw Pr) (lGe Pr) "own" w1).2.1 * (w3 (lOw Pr) (lGe Pr) "general" w2).2.1) = lessQ (w3 (lOw Pr) (lGe Pr) "own" w1) (w3 (lOw Pr) (lGe Pr) "general" w2) from less_low b2.1 b4.1] at h
      exact h
    have zz := less_sz (x := w3 (lOw Pr) (lGe Pr) "own" w1) (y := w3 (lOw Pr) (lGe Pr) "general" w2) b1 b2 b3 b4
    have d1 := own_sh ha1 z11 zz zz
    rw [decide_eq_true (show gMin (lessQ (w3 (lOw Pr) (lGe Pr) "own" w1) (w3 (lOw Pr) (lGe Pr) "general" w2)) (lessQ (w3 (lOw Pr) (lGe Pr) "own" w1) (w3 (lOw Pr) (lGe Pr) "general" w2)) = 0 from by unfold gMin; omega)] at d1
    refine ⟨_, rfl, true, ⟨t1, td, _, _, rfl, rfl, SqT.of ht1, SqT.of (e12 _ _ (g11.at htd0)), .yes (.inr d1) (.yes (.inl (fl_str w1)) (.yes (.inl (fl_str w2)) .nil)), fun _ => rfl⟩, fun H13 e13 => ⟨_, rfl, iteF ?_⟩⟩
    refine ⟨_, rfl, Pr, hPG, vm, rfl, (hms.mono e12).mono e13, fun t2 a2 x y H14 e14 hx hy ht2 ha2 => ?_⟩
    rw [ex] at hx
    rw [ey] at hy
    obtain rfl := Option.some.inj hx
    obtain rfl := Option.some.inj hy
    refine ⟨t2, _, _, _, rfl, rfl, SqT.of ht2, rfl, ?_⟩
    refine ⟨ha2.ins, Nb.nf S (.inr ⟨1, rfl, rfl⟩), a2, .int 1, lessQ (w3 (lOw Pr) (lGe Pr) "own" w1) (w3 (lOw Pr) (lGe Pr) "general" w2), (1, 1), rfl, ha2, .inr ⟨1, rfl, rfl⟩, zz, sz_one.up (by decide), fun H15 e15 => ⟨_, rfl, ?_⟩⟩
    show if decide (gMin (lessQ (w3 (lOw Pr) (lGe Pr) "own" w1) (w3 (lOw Pr) (lGe Pr) "general" w2)) (1, 1) < 0) = true then _ else _
    rw [decide_eq_false (less_ge (x := w3 (lOw Pr) (lGe Pr) "own" w1) (y := w3 (lOw Pr) (lGe Pr) "general" w2) b2.1 b4.1 each_own each_gen)]
    refine iteF ?_
    have gF : Gr T0 none H1 H15 := gE.trans (.of (e12.trans (e13.trans (e14.trans e15))))
    clear zz d1 z11
    -- the odd values
    refine ⟨(by show 3 ≤ sizeLine; decide), fun Lo hLo => ⟨Lo, rfl, ⟨_, SqL.of upd_same⟩, ?_⟩⟩
    have u1 := Same.upd (o := .lst [.non, .int 5, .str "prices"]) hLo
    have hLo1 : (upd H15 Lo (.lst [.non, .int 5, .str "prices"])) Lo = some (.lst [.non, .int 5, .str "prices"]) := upd_same
    have gG := gF.trans (.of u1)
    generalize (upd H15 Lo (.lst [.non, .int 5, .str "prices"])) = H16 at hLo1 gG ⊢
    have odd : ∀ {G : Hp} {y : V}, y ∈ [V.non, .int 5, .str "prices"] → ∃ dd, NoIn Z.K CP G y ∧ Dp Z.K G y dd ∧ Rp dd ∧ PyData.strOk dd.shown = true := fun {G y} hy => by
      have c1 : rpB .none = true ∧ rpB (.int 5) = true ∧ rpB (.str "prices") = true := by decide +kernel
      have c2 : PyData.strOk (PyData.none).shown = true ∧ PyData.strOk (PyData.int 5).shown = true ∧ PyData.strOk (PyData.str "prices").shown = true := by decide +kernel
      simp only [List.mem_cons, List.not_mem_nil, or_false] at hy
      rcases hy with rfl | rfl | rfl
      · exact ⟨.none, ⟨_, .base .non, kP _ (by simp)⟩, .non, rpB_ok c1.1, c2.1⟩
      · exact ⟨.int 5, ⟨_, .base (.int 5), kP _ (by simp)⟩, .int 5, rpB_ok c1.2.1, c2.2.1⟩
      · exact ⟨.str "prices", ⟨_, .base (.str "prices"), kP _ (by simp)⟩, .str _, rpB_ok c1.2.2, c2.2.2⟩
    refine for_list (K := Z.K) (a := Lo) (xs := [.non, .int 5, .str "prices"]) (fun j σ G => Same H16 G ∧ ∃ o9 o10 : Option V, σ = [some (.ref a), some (.int (0 + ((i : Nat) : Int))), some (.ref p), some vp, some (.ref lo), some (.ref lg), _, some (.ref td), some vm, o9, o10]) ⟨.refl _, _, _, rfl⟩ (fun j σ G _ ⟨g, _⟩ => SqL.of (g _ _ hLo1)) ?_ ?_
    · rintro j y σ G hyj ⟨g0, o9, o10, rfl⟩
      obtain ⟨dd, hno, hdp, hrp, hok⟩ := odd (G := G) (List.mem_of_getElem? hyj)
      refine ⟨2, rfl, by decide, by decide, fun D hD => ?_⟩
      refine lcR hr_same (walk_range (lo := 0) (n := ((2 : Int)).toNat)) yfn (bs := List.range 2) (fun u _ _ => u = V.str dd.shown) (List.length_range) (by decide) hD trivial (fun _ _ => trivial) (fun u b H2 H3 h _ => h) (fun u b H2 xs zs h _ => h) ?_ ?_
      · rintro jj x bb G2 acc Qe rfl hb e2 hD2 kk
        exact ⟨_, rfl, _, rfl, y, dd, _, rfl, hno.mono e2, Dp.mono e2 hdp, hrp, fun H' e => kk _ _ e rfl⟩
      rintro G3 ys e3 hD3 al3
      have hys : ys = ([dd.shown, dd.shown] : List Str).map V.str := List.eq_replicate_iff.mpr ⟨al3.1, fun u hu => by
        obtain ⟨ii, hii⟩ := List.getElem?_of_mem hu
        obtain ⟨b, _, h⟩ := al3.get hii
        exact h⟩
      subst hys
      refine ⟨_, rfl, y, dd, rfl, Dp.mono e3 hdp, hrp.show_, hrp.nod, hrp.d60, hrp.sz, (by show 1 ≤ sizeLine; decide), fun q1 hq1 => ⟨q1, 2, _, rfl, rfl, upd_same, by decide, by decide, (by show 1 * 2 ≤ sizeLine; decide), fun q2 hq2 => ?_⟩⟩
      have v1 := Same.upd (o := .lst [.str dd.shown]) hq1
      have v2 := Same.upd (o := .lst (List.replicate (2 : Int).toNat [V.str dd.shown]).flatten) hq2
      have sh := shaped_strs (zs := [dd.shown, dd.shown]) (fun z hz => by
        simp only [List.mem_cons, List.not_mem_nil, or_false, or_self] at hz
        rw [hz]
        exact hok)
      refine ⟨.list (([dd.shown, dd.shown] : List Str).map PyData.str), .list (([dd.shown, dd.shown] : List Str).map PyData.str), .lst (SqL.of ((v1.trans v2) _ _ hD3)) (DpAll.strs _), .lst (SqL.of upd_same) (DpAll.strs [dd.shown, dd.shown]), sh, sh, _, rfl, ?_⟩
      rw [eqv_same sh]
      refine iteF ?_
      exact ⟨g0.trans (e3.trans (v1.trans v2)), _, _, rfl⟩
    · rintro σ G ⟨g0, o9, o10, rfl⟩
      have gZ := gG.trans (.of g0)
      exact ⟨gZ.t hT1, gZ.seq hS1, _, _, _, _, _, _, _, _, _, _, rfl⟩
end
end Ps

/-! Promises joined over outer data. -/
namespace Ps
open PySem PySem.Spec PyProof.Rows PySem.W L2

theorem FnOk.exP {P : Program} {w : World} {K : PySem.W.Frag} {mg : Str → Option Value} {base : Heap} {CX : CXT} {k : Nat} {f : Addr} {fd : FuncData} {ps : List Str} {ι : Type} {p : ι → Prop} {sp : ι → Sp} (h : ∀ i, p i → FnOk P w K mg base CX k f fd ps (sp i)) :
    FnOk P w K mg base CX k f fd ps (fun vs H Q E => ∃ i, p i ∧ sp i vs H Q E) :=
  ⟨fun vs H Q E ⟨i, hp, q⟩ => (h i hp).len vs H Q E q, fun A outer s H args us vs Q E hr he hb hv ⟨i, hp, q⟩ => (h i hp).run A outer s H args us vs Q E hr he hb hv q⟩
end Ps

/-! k35: the end. -/
namespace Ps
open PySem PySem.Spec PyProof.Rows PySem.W L2 He


theorem facts {P : Program} {w : World} {K : Frag} {h : Heap} {mg : Str → Option Value} {f : Addr} (X : K.In h) (G : h.Ns mainGlobals mg) (hfa : mg ("law" : Str) = some (.ref f)) (c : SaysP fnAll exAll K) (t : TabsH mkAll K h) :
    ∃ fd : FuncData, (∀ (s : Shared) (v : Value), BindsTo s fd ⟨[v], []⟩ [("_law_script", v)]) ∧ ∀ base : Heap, K.In base → base.Ns mainGlobals mg → (∀ p ∈ tabsOf mkAll K, LamX.TabB base mg p.1 p.2) → FnG P w K mg base CX0 14 f fd ["_law_script"] (spLawT K (tabsT mkAll K)) := by
  obtain ⟨f_is_integer, fd_is_integer, g_is_integer⟩ := c.glo X G 0 rfl
  obtain ⟨f_common, fd_common, g_common⟩ := c.glo X G 1 rfl
  obtain ⟨f_share_of_number, fd_share_of_number, g_share_of_number⟩ := c.glo X G 2 rfl
  obtain ⟨_, fd_3, F_3⟩ := c.def_ 3 rfl
  obtain ⟨_, fd_4, F_4⟩ := c.def_ 4 rfl
  obtain ⟨f_is_number, fd_is_number, g_is_number⟩ := c.glo X G 5 rfl
  obtain ⟨f_Share_dd_add, fd_Share_dd_add, g_Share_dd_add⟩ := c.meth 6 rfl
  obtain ⟨f_Share_by, fd_Share_by, g_Share_by⟩ := c.meth 7 rfl
  obtain ⟨f_Share_minus, fd_Share_minus, g_Share_minus⟩ := c.meth 8 rfl
  obtain ⟨f_Share_dd_lt, fd_Share_dd_lt, g_Share_dd_lt⟩ := c.meth 9 rfl
  obtain ⟨f_Share_dd_le, fd_Share_dd_le, g_Share_dd_le⟩ := c.meth 10 rfl
  obtain ⟨f_Share_dd_gt, fd_Share_dd_gt, g_Share_dd_gt⟩ := c.meth 11 rfl
  obtain ⟨f_Share_dd_ge, fd_Share_dd_ge, g_Share_dd_ge⟩ := c.meth 12 rfl
  obtain ⟨f_Share_dd_eq, fd_Share_dd_eq, g_Share_dd_eq⟩ := c.meth 13 rfl
  obtain ⟨p_Book_own_plans, f_Book_own_plans, fd_Book_own_plans, t_Book_own_plans, F_Book_own_plans⟩ := c.stat 14 rfl (by have := c.more; exact (statOf_Book_own_plans this))
  obtain ⟨f_is_word, fd_is_word, g_is_word⟩ := c.glo X G 15 rfl
  obtain ⟨f_is_pair, fd_is_pair, g_is_pair⟩ := c.glo X G 16 rfl
  obtain ⟨f_shares_of, fd_shares_of, g_shares_of⟩ := c.glo X G 17 rfl
  obtain ⟨f_are_kinds, fd_are_kinds, g_are_kinds⟩ := c.glo X G 18 rfl
  obtain ⟨f_as_make, fd_as_make, g_as_make⟩ := c.glo X G 19 rfl
  obtain ⟨f_Prices_dd_init, fd_Prices_dd_init, g_Prices_dd_init⟩ := c.meth 20 rfl
  obtain ⟨f_Prices_dd_getitem, fd_Prices_dd_getitem, g_Prices_dd_getitem⟩ := c.meth 21 rfl
  obtain ⟨f_Prices_dd_contains, fd_Prices_dd_contains, g_Prices_dd_contains⟩ := c.meth 22 rfl
  obtain ⟨f_Prices_words, fd_Prices_words, g_Prices_words⟩ := c.meth 23 rfl
  obtain ⟨f_Prices_own, fd_Prices_own, g_Prices_own⟩ := c.meth 24 rfl
  obtain ⟨f_Prices_general, fd_Prices_general, g_Prices_general⟩ := c.meth 25 rfl
  obtain ⟨f_Prices_best, fd_Prices_best, g_Prices_best⟩ := c.meth 26 rfl
  obtain ⟨f_check_prices, fd_check_prices, g_check_prices⟩ := c.glo X G 27 rfl
  obtain ⟨f_check_book, fd_check_book, g_check_book⟩ := c.glo X G 28 rfl
  obtain ⟨f_worst_for, fd_worst_for, g_worst_for⟩ := c.glo X G 29 rfl
  obtain ⟨f_floor_of, fd_floor_of, g_floor_of⟩ := c.glo X G 30 rfl
  obtain ⟨f_opponent, fd_opponent, g_opponent⟩ := c.glo X G 31 rfl
  obtain ⟨f_BadArgument_dd_init, fd_BadArgument_dd_init, g_BadArgument_dd_init⟩ := c.meth 32 rfl
  obtain ⟨f_BadPrice_dd_init, fd_BadPrice_dd_init, g_BadPrice_dd_init⟩ := c.meth 33 rfl
  obtain ⟨f_BadKind_dd_init, fd_BadKind_dd_init, g_BadKind_dd_init⟩ := c.meth 34 rfl
  obtain ⟨f_is_above, fd_is_above, g_is_above⟩ := c.glo X G 35 rfl
  obtain ⟨f_is_after, fd_is_after, g_is_after⟩ := c.glo X G 36 rfl
  obtain ⟨f_is_setting, fd_is_setting, g_is_setting⟩ := c.glo X G 37 rfl
  obtain ⟨f_as_kept, fd_as_kept, g_as_kept⟩ := c.glo X G 38 rfl
  obtain ⟨f_lw_numbers, fd_lw_numbers, g_lw_numbers⟩ := c.glo X G 39 rfl
  obtain ⟨f_lw_pool, fd_lw_pool, g_lw_pool⟩ := c.glo X G 40 rfl
  obtain ⟨f_lw_draw, fd_lw_draw, g_lw_draw⟩ := c.glo X G 41 rfl
  obtain ⟨f_lw_sorted, fd_lw_sorted, g_lw_sorted⟩ := c.glo X G 42 rfl
  obtain ⟨f_lw_opened, fd_lw_opened, g_lw_opened⟩ := c.glo X G 43 rfl
  obtain ⟨f_lw_lesser, fd_lw_lesser, g_lw_lesser⟩ := c.glo X G 44 rfl
  obtain ⟨f_lw_prices, fd_lw_prices, g_lw_prices⟩ := c.glo X G 45 rfl
  obtain ⟨f_lw_made_prices, fd_lw_made_prices, g_lw_made_prices⟩ := c.glo X G 46 rfl
  obtain ⟨f_lw_best_of, fd_lw_best_of, g_lw_best_of⟩ := c.glo X G 47 rfl
  obtain ⟨f_lw_worst, fd_lw_worst, g_lw_worst⟩ := c.glo X G 48 rfl
  obtain ⟨f_lw_told, fd_lw_told, g_lw_told⟩ := c.glo X G 49 rfl
  obtain ⟨f_lw_law, fd_lw_law, g_lw_law⟩ := c.glo X G 50 rfl
  have e := hfa.symm.trans g_lw_law.m
  cases e
  refine ⟨fd_lw_law, fun s v => ?_, fun base hK hG hB => ?_⟩
  · obtain ⟨⟨oc, od, kV, doc, pm, an, cdv, ct, osl, rfl, lk, hcd⟩, kp⟩ := g_lw_law.F
    exact .of_eq rfl
  let Z : Cz := ⟨P, w, K, mg, base⟩

  obtain ⟨_, ce⟩ := ba c.more
  obtain ⟨ce1, ce⟩ := ba ce
  obtain ⟨ce2, ce⟩ := ba ce
  obtain ⟨ce3, ce⟩ := ba ce
  obtain ⟨cx, ce⟩ := ba ce
  obtain ⟨cn1, ce⟩ := ba ce
  obtain ⟨ck, ce⟩ := ba ce
  obtain ⟨cm, cfr⟩ := ba ce
  obtain ⟨cx1, cx⟩ := ba cx
  obtain ⟨cx2, cx3⟩ := ba cx
  obtain ⟨cm1, cm2⟩ := ba cm
  have kP : ∀ t ∈ ([.type "int", .type "str", .type "NoneType"] : List Value), kitOne K t (.ref (ga K "Prices")) = some false := fun t ht => of_decide_eq_true (List.all_eq_true.mp ck t ht)
  have mr : mg "repr" = none := freeB_ok X G cfr (by simp)
  have md : mg "dict" = none := freeB_ok X G cfr (by simp)
  have na := numB_ok cn1
  obtain ⟨T, D, M⟩ := shB_ok (P := P) (w := w) (base := base) X G ce1
  obtain ⟨PB, PC, MP⟩ := prB_ok (P := P) (w := w) (base := base) X G ce2
  obtain ⟨B, KB, J, MB, ckw⟩ := bkB_ok (P := P) (w := w) (base := base) X G ce3
  have tp := excB_ok X G cx1 g_BadPrice_dd_init rfl rfl rfl
  have tk := excB_ok X G cx2 g_BadKind_dd_init rfl rfl rfl
  have ta := excB_ok X G cx3 g_BadArgument_dd_init rfl rfl rfl
  -- shares
  obtain ⟨c_is_integer, c_Share, c_Share1⟩ := mk_cals (Z := Z) X G T M ⟨_, _, g_is_integer⟩ ⟨_, _, g_common⟩ ⟨_, F_3⟩
  have c_num := g_share_of_number.cal (Z := Z) (ok_share_of_number g_share_of_number.F T c_is_integer c_Share1) (g_share_of_number.F.binds fun _ _ _ _ _ _ us hl => match us, hl with | [_], _ => rfl)
  have c_isnum := g_is_number.cal (Z := Z) (ok_is_number g_is_number.F T c_is_integer) (g_is_number.F.binds fun _ _ _ _ _ _ us hl => match us, hl with | [_], _ => rfl)
  have c_add := g_Share_dd_add.calS (Z := Z) (ok_add g_Share_dd_add.F T c_num c_Share) (g_Share_dd_add.F.binds fun _ _ _ _ _ _ us hl => match us, hl with | [_, _], _ => rfl)
  have c_by := g_Share_by.calM (Z := Z) T.cl (ok_by g_Share_by.F T c_num c_Share) (g_Share_by.F.binds fun _ _ _ _ _ _ us hl => match us, hl with | [_, _], _ => rfl)
  have c_minus := g_Share_minus.calM (Z := Z) T.cl (ok_minus g_Share_minus.F T c_num) (g_Share_minus.F.binds fun _ _ _ _ _ _ us hl => match us, hl with | [_, _], _ => rfl)
  have c_le := g_Share_dd_le.calS (Z := Z) (ok_le g_Share_dd_le.F c_minus) (g_Share_dd_le.F.binds fun _ _ _ _ _ _ us hl => match us, hl with | [_, _], _ => rfl)
  have c_lt := g_Share_dd_lt.calS (Z := Z) (ok_lt g_Share_dd_lt.F c_minus) (g_Share_dd_lt.F.binds fun _ _ _ _ _ _ us hl => match us, hl with | [_, _], _ => rfl)
  have c_gt := g_Share_dd_gt.calS (Z := Z) (ok_gt g_Share_dd_gt.F c_minus) (g_Share_dd_gt.F.binds fun _ _ _ _ _ _ us hl => match us, hl with | [_, _], _ => rfl)
  have c_ge := g_Share_dd_ge.calS (Z := Z) (ok_ge g_Share_dd_ge.F c_minus) (g_Share_dd_ge.F.binds fun _ _ _ _ _ _ us hl => match us, hl with | [_, _], _ => rfl)
  have c_eq := g_Share_dd_eq.calS (Z := Z) (ok_eq g_Share_dd_eq.F c_minus c_isnum) (g_Share_dd_eq.F.binds fun _ _ _ _ _ _ us hl => match us, hl with | [_, _], _ => rfl)
  have MM : ShM Z (ga K "Share") := ⟨c_gt, c_ge, c_eq, c_add, na, c_Share, c_Share1, c_isnum, c_is_integer⟩
  have MP' : ShP Z (ga K "Share") := ⟨c_lt, c_gt, c_add, na, c_Share1, c_isnum⟩
  -- prices
  have c_isw := g_is_word.cal (Z := Z) (ok_is_word g_is_word.F PB.toWdT) (g_is_word.F.binds fun _ _ _ _ _ _ us hl => match us, hl with | [_], _ => rfl)
  have c_isp := g_is_pair.cal (Z := Z) (ok_is_pair g_is_pair.F T PB MP') (g_is_pair.F.binds fun _ _ _ _ _ _ us hl => match us, hl with | [_], _ => rfl)
  have c_ark := g_are_kinds.cal (Z := Z) (ok_are_kinds g_are_kinds.F T PB c_isw c_isp) (g_are_kinds.F.binds fun _ _ _ _ _ _ us hl => match us, hl with | [_], _ => rfl)
  have c_sho := g_shares_of.cal (Z := Z) (ok_shares_of g_shares_of.F MP') (g_shares_of.F.binds fun _ _ _ _ _ _ us hl => match us, hl with | [_], _ => rfl)
  have c_asm := g_as_make.cal (Z := Z) (ok_as_make g_as_make.F T MP' tp) (g_as_make.F.binds fun _ _ _ _ _ _ us hl => match us, hl with | [_], _ => rfl)
  have m_pri := GotM.mkr (Z := Z) (q := "Prices.__init__.<locals>.<lambda>") t hB (by simp [mkAll]) g_Prices_dd_init
  have k_pri := ok_Prices (Z := Z) (T0 := tabsT mkAll K) g_Prices_dd_init.F PB PC tp m_pri c_asm c_ark c_sho
  have hmi : ma K (ga K "Prices") "__init__" = f_Prices_dd_init := by
    unfold ma
    rw [g_Prices_dd_init.o.fn]
  rw [hmi] at MP
  have c_Prices : CalC Z CX0 9 (ga K "Prices") "Prices" ["self", "make", "general_make", "kinds"] [] (spPrices0 (tabsT mkAll K) (ga K "Share") (ga K "Prices")) := ⟨_, _, [], okCalm k_pri fun vs H Q E h => spPrices0_of h, MP, PC.mg, (g_Prices_dd_init.F.binds fun _ _ _ _ _ _ us hl => match us, hl with | [_, _, _, _], _ => rfl), .nil⟩
  have c_has := g_Prices_dd_contains.calS (Z := Z) (ok_PrHas (C := ga K "Share") g_Prices_dd_contains.F PC c_isw) (g_Prices_dd_contains.F.binds fun _ _ _ _ _ _ us hl => match us, hl with | [_, _], _ => rfl)
  have k_get := ok_PrGet (Z := Z) (C := ga K "Share") g_Prices_dd_getitem.F PC tk c_has
  have c_get := GotM.calI (Z := Z) g_Prices_dd_getitem k_get (g_Prices_dd_getitem.F.binds fun _ _ _ _ _ _ us hl => match us, hl with | [_, _], _ => rfl)
  have c_own0 := g_Prices_own.calM (Z := Z) PC.cl (okCalm (ok_PrOwn (Z := Z) g_Prices_own.F PC MP' c_get) (sp' := spPrOf0 (ga K "Share") (ga K "Prices") qOwn) fun vs H Q E h => by
    obtain ⟨x, z, q, Pp, rfl, h1, h2, h3, h4⟩ := h
    exact ⟨x, .str z, Pp, rfl, h1, h2, .inl ⟨z, q, rfl, h3, h4⟩⟩) (g_Prices_own.F.binds fun _ _ _ _ _ _ us hl => match us, hl with | [_, _], _ => rfl)
  have c_gen0 := g_Prices_general.calM (Z := Z) PC.cl (okCalm (ok_PrGen (Z := Z) g_Prices_general.F PC c_get) (sp' := spPrOf0 (ga K "Share") (ga K "Prices") fun _ q => q.2) fun vs H Q E h => by
    obtain ⟨x, z, q, Pp, rfl, h1, h2, h3, h4⟩ := h
    exact ⟨x, .str z, Pp, rfl, h1, h2, .inl ⟨z, q, rfl, h3, h4⟩⟩) (g_Prices_general.F.binds fun _ _ _ _ _ _ us hl => match us, hl with | [_, _], _ => rfl)
  have c_ownX := g_Prices_own.calM (Z := Z) PC.cl (ok_PrOwn (Z := Z) g_Prices_own.F PC MP' c_get) (g_Prices_own.F.binds fun _ _ _ _ _ _ us hl => match us, hl with | [_, _], _ => rfl)
  have c_genX := g_Prices_general.calM (Z := Z) PC.cl (ok_PrGen (Z := Z) g_Prices_general.F PC c_get) (g_Prices_general.F.binds fun _ _ _ _ _ _ us hl => match us, hl with | [_, _], _ => rfl)
  have c_best0 := g_Prices_best.calM (Z := Z) PC.cl (okCalm (ok_PrBest (Z := Z) g_Prices_best.F T PC c_ownX c_genX c_le) (sp' := spPrOf0 (ga K "Share") (ga K "Prices") qBest) fun vs H Q E h => by
    obtain ⟨x, z, q, Pp, rfl, h1, h2, h3, h4⟩ := h
    exact ⟨x, .str z, Pp, rfl, h1, h2, .inl ⟨z, q, rfl, h3, h4⟩⟩) (g_Prices_best.F.binds fun _ _ _ _ _ _ us hl => match us, hl with | [_, _], _ => rfl)
  have c_pwords := g_Prices_words.calM (Z := Z) PC.cl (ok_PrWords (C := ga K "Share") g_Prices_words.F PB PC) (g_Prices_words.F.binds fun _ _ _ _ _ _ us hl => match us, hl with | [_], _ => rfl)
  have c_chkPX := g_check_prices.cal (Z := Z) (ok_ckPX (C := ga K "Share") g_check_prices.F PB.toWdT PC ta) (g_check_prices.F.binds fun _ _ _ _ _ _ us hl => match us, hl with | [_], _ => rfl)
  -- books
  have c_above := g_is_above.cal (Z := Z) (ok_is_above g_is_above.F T MM) (g_is_above.F.binds fun _ _ _ _ _ _ us hl => match us, hl with | [_], _ => rfl)
  have c_after := g_is_after.cal (Z := Z) (ok_is_after g_is_after.F T B MM c_above) (g_is_after.F.binds fun _ _ _ _ _ _ us hl => match us, hl with | [_], _ => rfl)
  have c_setting := g_is_setting.cal (Z := Z) (ok_is_setting g_is_setting.F T B MM c_above c_after) (g_is_setting.F.binds fun _ _ _ _ _ _ us hl => match us, hl with | [_, _], _ => rfl)
  have c_kept := g_as_kept.cal (Z := Z) (ok_as_kept g_as_kept.F T MM) (g_as_kept.F.binds fun _ _ _ _ _ _ us hl => match us, hl with | [_, _], _ => rfl)
  have F4 := FunD.withKw (kws := bkKws) F_4 ckw
  have k4 := ok_Book (Z := Z) (C := ga K "Share") (CB := ga K "Book") F4 B KB c_setting c_kept
  obtain ⟨c_book, c_bookK⟩ := book_cals (Z := Z) F4 MB KB k4
  have c_own_plans : CalT Z CX0 12 (ga K "Book") "own_plans" (spOwn (ga K "Share") (ga K "Book") none) := ⟨_, _, FnOk.toR (ok_own_plans (Z := Z) F_Book_own_plans c_book) (F_Book_own_plans.binds fun _ _ _ _ _ _ us hl => match us, hl with | [], _ => rfl), t_Book_own_plans⟩
  have c_chkB := g_check_book.cal (Z := Z) (ok_chkB (C := ga K "Share") g_check_book.F KB J) (g_check_book.F.binds fun _ _ _ _ _ _ us hl => match us, hl with | [_], _ => rfl)
  -- floors
  have k_floor := fun (ow ge : Str → Int) (gm : Int) => ok_floorOf (Z := Z) (ow := ow) (ge := ge) (gm := gm) g_floor_of.F T c_chkPX (g_worst_for.cal (Z := Z) (ok_worst (ow := ow) (ge := ge) (gm := gm) g_worst_for.F T c_pwords c_own0 c_gen0 c_best0 c_by c_gt) (g_worst_for.F.binds fun _ _ _ _ _ _ us hl => match us, hl with | [_, _], _ => rfl)) c_le
  have c_floorX := g_floor_of.cal (Z := Z) (k_floor (fun _ => 0) (fun _ => 0) 0) (g_floor_of.F.binds fun _ _ _ _ _ _ us hl => match us, hl with | [_], _ => rfl)
  have k_floor1 : ∀ x : PrD, PrG x → Z.ok CX0 9 f_floor_of fd_floor_of ["prices"] (spFloor1 (ga K "Share") (ga K "Prices") x) := fun x hx => okCalm (k_floor (lOw x) (lGe x) x.gen) fun vs H Q E h => spFloor1_of hx h
  have c_floor : Cal Z CX0 9 "floor_of" ["prices"] [] (spFloorPl (ga K "Share") (ga K "Prices")) := g_floor_of.cal (Z := Z) (FnOk.exP k_floor1) (g_floor_of.F.binds fun _ _ _ _ _ _ us hl => match us, hl with | [_], _ => rfl)
  have c_opp : CalG1 Z 4 "opponent" ["book", "prices"] [] (spOpp Z.K (ga K "Share") (ga K "Book") (ga K "Prices") (ga K "BadArgument")) := ⟨_, _, [], ok_oppo (Z := Z) g_opponent.F c_chkB c_chkPX, g_opponent.m, g_opponent.F.kp, (g_opponent.F.binds fun _ _ _ _ _ _ us hl => match us, hl with | [_, _], _ => rfl), .nil⟩
  -- the law's own
  have m_srt := Got.mkr (Z := Z) (q := "_law_sorted.<locals>.<lambda>") t hB (by simp [mkAll]) X G g_lw_sorted (At.glo X G (c.def_ 42 rfl).1)
  have c_srt := g_lw_sorted.cal (Z := Z) (ok_lsorted (T0 := tabsT mkAll K) g_lw_sorted.F PB.toWdT m_srt) (g_lw_sorted.F.binds fun _ _ _ _ _ _ us hl => match us, hl with | [_], _ => rfl)
  have c_numbers := g_lw_numbers.cal (Z := Z) (ok_numbers g_lw_numbers.F D) (g_lw_numbers.F.binds fun _ _ _ _ _ _ us hl => match us, hl with | [_, _, _], _ => rfl)
  have c_pool := g_lw_pool.cal (Z := Z) (ok_pool g_lw_pool.F D c_numbers) (g_lw_pool.F.binds fun _ _ _ _ _ _ us hl => match us, hl with | [_, _, _], _ => rfl)
  have c_draw := g_lw_draw.cal (Z := Z) (ok_dr (TT := tabsT mkAll K) g_lw_draw.F D) (g_lw_draw.F.binds fun _ _ _ _ _ _ us hl => match us, hl with | [_, _], _ => rfl)
  have c_opened := g_lw_opened.cal (Z := Z) (ok_opened g_lw_opened.F D c_pool) (g_lw_opened.F.binds fun _ _ _ _ _ _ us hl => match us, hl with | [_, _, _], _ => rfl)
  have c_prices := g_lw_prices.cal (Z := Z) (ok_prices g_lw_prices.F c_draw) (g_lw_prices.F.binds fun _ _ _ _ _ _ us hl => match us, hl with | [_, _], _ => rfl)
  have c_mprices := g_lw_made_prices.cal (Z := Z) (ok_mprices g_lw_made_prices.F PB.toWdT md c_Share c_Prices) (g_lw_made_prices.F.binds fun _ _ _ _ _ _ us hl => match us, hl with | [_], _ => rfl)
  have c_lless := g_lw_lesser.cal (Z := Z) (ok_llesser g_lw_lesser.F) (g_lw_lesser.F.binds fun _ _ _ _ _ _ us hl => match us, hl with | [_, _], _ => rfl)
  have c_lbest := g_lw_best_of.cal (Z := Z) (ok_lbest g_lw_best_of.F c_lless) (g_lw_best_of.F.binds fun _ _ _ _ _ _ us hl => match us, hl with | [_, _, _], _ => rfl)
  have c_lworst := g_lw_worst.cal (Z := Z) (ok_lworst g_lw_worst.F c_srt c_lbest) (g_lw_worst.F.binds fun _ _ _ _ _ _ us hl => match us, hl with | [_, _], _ => rfl)
  have k_told := ok_told35 (Z := Z) g_lw_told.F mr KB ta (of_decide_eq_true cm1) (of_decide_eq_true cm2) c_floorX c_opp c_own_plans
  have c_told : CalG Z CX0 13 "_law_told" ["_law_door", "_law_prices_here"] (spTold35 Z.K (ga K "Prices")) := ⟨_, _, k_told, g_lw_told.m, g_lw_told.F.kp, (g_lw_told.F.binds fun _ _ _ _ _ _ us hl => match us, hl with | [_, _], _ => rfl)⟩
  exact ok_law g_lw_law.F D T MM mr kP c_Share c_opened c_draw c_prices c_mprices c_lworst c_lless c_floor c_lt c_told
end Ps
open PySem PySem.W PySem.Calls PyProof.Rows
theorem PySem.Challenge.cw_planswitches_k35_floors_and_worst_kinds_holds : PySem.Challenge.rw_planswitches_k35_floors_and_worst_kinds.Holds := by
  w_on; o_law
  refine HandSHeadRun.head_any (r := OpenLaw.row PySem.Challenge.rw_planswitches_k35_floors_and_worst_kinds) (q := view (OpenLaw.row PySem.Challenge.rw_planswitches_k35_floors_and_worst_kinds).prog [60]) (H := Ps.hk) (ob := Ps.ob) (M := 30000) (loose := Ps.loose) (d := HandSHeadRun.topDef (OpenLaw.row PySem.Challenge.rw_planswitches_k35_floors_and_worst_kinds).prog 60) (kwd := []) Ps.ob_eq
    (by kernel_rfl) (fun s => by kernel_rfl) Ps.run (by kernel_rfl) (by kernel_rfl) (by kernel_rfl) (by rfl) (by first | assumption | decide +kernel) (by decide +kernel) ⟨rfl, rfl, rfl, rfl, rfl, by decide +kernel⟩ ?hw ?hc
  case hw => w_witness2
  case hc =>
    refine Ps.walk_GT (l := PySem.Challenge.rw_planswitches_k35_floors_and_worst_kinds) (n := 63) (k := 14) (x := "_law_script") (CX := L2.CX0) rfl (by decide) (by kernel_rfl) ⟨rfl, by decide, by decide⟩ ?F (fun _ _ _ _ z => z)
    intro w mg fa h Y G hmg0
    obtain ⟨K, KX, c, t⟩ := Y
    replace c := Ps.parts_says c
    have hmg : mg ("law" : PySem.Str) = some (.ref fa) := by
      have e : (HandSHeadRun.topDef (OpenLaw.row PySem.Challenge.rw_planswitches_k35_floors_and_worst_kinds).prog 60).name = ("law" : PySem.Str) := by kernel_rfl
      rw [← e]
      exact hmg0
    obtain ⟨fd, hb, hF⟩ := Ps.facts (P := (PySem.Challenge.rw_planswitches_k35_floors_and_worst_kinds).prog) (w := w) KX G hmg c t
    exact ⟨K, fd, Ps.spLawT K (Ps.tabsT Ps.mkAll K), Ps.tabsOf Ps.mkAll K, KX, t.tab, t.out, t.code, hb, fun H a ns hl hH hS => ⟨a, ns, rfl, hS, hl, Ps.tabs_start hH, fun _ => rfl⟩, hF⟩


